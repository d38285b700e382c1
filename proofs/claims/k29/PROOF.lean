import PyProof.Rows.All
import HandS.ForMost
import HandS.ForExc
import HandS.More
import HandS.Deep
import HandS.TupAny
import HandS.TupLe
import HandS.Style
import HandS.Flow
import HandS.IsInst
import HandS.Defaults
import HandS.AnyAll
import Wide.All
import OpenK.AllK
import Wide.FinOn
import KE.KStateDown
import Lean
import HandS.EndTab
import HandS.HeadWalk
import HandS.Head0
import HandS.Head1
import HandS.Head2
import HandS.HeadEnd
import HandS.HeadHook1
import HandS.HeadHook2
import HandS.HeadHook3
import HandS.HeadHook4
import HandS.GenOver
import PyProof.GenRules
import PyProof.GenQ
import KE.GoesEnum
import KE.KDictKeyed
import KE.KDictDisplayH
import HandS.DeepEq
import KE.KDictOf
import HandS.Sort
import HandS.SortKw
import HandS.Keys
import HandS.Steps
import PySem.Challenge.RW_onelife_k29_whole_harms
set_option Elab.async false
set_option linter.all false
set_option maxRecDepth 100000
set_option maxHeartbeats 4000000
/-! immutable data, how heaps grow, what an expression is worth over data -/
namespace K29
open PySem PySem.Spec PyProof.Rows L2

/-! ### data without lists -/
inductive Dt where
  | non | bl (b : Bool) | int (i : Int) | str (x : Str) | tup (xs : List Dt)
mutual
def py : Dt → PyData
  | .non => .none
  | .bl b => .bool b
  | .int i => .int i
  | .str x => .str x
  | .tup xs => .tuple (pyAll xs)
def pyAll : List Dt → List PyData
  | [] => []
  | x :: xs => py x :: pyAll xs
end
mutual
/-- of depth at most n, no truth value, signs that are signs -/
def ok : Nat → Dt → Bool
  | _, .non => true
  | _, .bl _ => false
  | _, .int _ => true
  | _, .str x => PyData.strOk x
  | 0, .tup _ => false
  | n + 1, .tup xs => okAll n xs
def okAll : Nat → List Dt → Bool
  | _, [] => true
  | n, x :: xs => ok n x && okAll n xs
end
theorem pyAll_map : ∀ xs : List Dt, pyAll xs = xs.map py
  | [] => by simp only [pyAll, List.map_nil]
  | x :: xs => by simp only [pyAll, List.map_cons, pyAll_map xs]
theorem okAll_iff {n : Nat} : ∀ {xs : List Dt}, okAll n xs = true ↔ ∀ d ∈ xs, ok n d = true
  | [] => by simp [okAll]
  | x :: xs => by simp [okAll, okAll_iff (xs := xs)]
theorem ok_tup {n : Nat} {xs : List Dt} (h : ∀ d ∈ xs, ok n d = true) : ok (n + 1) (.tup xs) = true := by
  simp only [ok]
  exact okAll_iff.mpr h
theorem of_ok_tup {n : Nat} {xs : List Dt} (h : ok n (.tup xs) = true) : ∃ m, n = m + 1 ∧ ∀ d ∈ xs, ok m d = true := by
  cases n with
  | zero => simp [ok] at h
  | succ m =>
    simp only [ok] at h
    exact ⟨m, rfl, okAll_iff.mp h⟩
mutual
theorem ok_mono {n m : Nat} (l : n ≤ m) : ∀ d : Dt, ok n d = true → ok m d = true
  | .non, _ => by simp only [ok]
  | .bl b, h => by simp [ok] at h
  | .int i, _ => by simp only [ok]
  | .str x, h => by simpa only [ok] using h
  | .tup xs, h => by
    obtain ⟨k, rfl, hk⟩ := of_ok_tup h
    obtain ⟨j, rfl⟩ : ∃ j, m = j + 1 := ⟨m - 1, by omega⟩
    simp only [ok]
    exact okAll_mono (by omega) xs (okAll_iff.mpr hk)
theorem okAll_mono {n m : Nat} (l : n ≤ m) : ∀ xs : List Dt, okAll n xs = true → okAll m xs = true
  | [], _ => by simp only [okAll]
  | x :: xs, h => by
    simp only [okAll, Bool.and_eq_true] at h ⊢
    exact ⟨ok_mono l x h.1, okAll_mono l xs h.2⟩
end
mutual
theorem ok_lay {n : Nat} : ∀ d : Dt, ok n d = true → (py d).canLay0 = true ∧ (py d).depth ≤ n
  | .non, _ => by simp [py, PyData.canLay0, PyData.depth]
  | .bl b, h => by simp [ok] at h
  | .int i, _ => by simp [py, PyData.canLay0, PyData.depth]
  | .str x, h => by
    simp only [ok] at h
    simp [py, PyData.canLay0, PyData.depth, h]
  | .tup xs, h => by
    obtain ⟨k, rfl, hk⟩ := of_ok_tup h
    have q := okAll_lay xs (okAll_iff.mpr hk)
    simp only [py, PyData.canLay0, PyData.depth]
    exact ⟨q.1, by omega⟩
theorem okAll_lay {n : Nat} : ∀ xs : List Dt, okAll n xs = true → PyData.canLayAll0 (pyAll xs) = true ∧ PyData.depthAll (pyAll xs) ≤ n
  | [], _ => by simp [pyAll, PyData.canLayAll0, PyData.depthAll]
  | x :: xs, h => by
    simp only [okAll, Bool.and_eq_true] at h
    have q1 := ok_lay x h.1
    have q2 := okAll_lay xs h.2
    simp only [pyAll, PyData.canLayAll0, PyData.depthAll, Bool.and_eq_true]
    exact ⟨⟨q1.1, q2.1⟩, by omega⟩
end
theorem ok_shaped {n : Nat} {d : Dt} (h : ok n d = true) (l : n ≤ 64) : SeqAt.shaped (py d) = true := by
  have q := ok_lay d h
  unfold SeqAt.shaped
  rw [Bool.and_eq_true]
  exact ⟨q.1, decide_eq_true (by omega)⟩
theorem ok_shapedL {n : Nat} {ds : List Dt} (h : ∀ d ∈ ds, ok n d = true) (l : n < 64) : SeqAt.shaped (.list (pyAll ds)) = true := by
  have q := okAll_lay ds (okAll_iff.mpr h)
  unfold SeqAt.shaped
  rw [Bool.and_eq_true]
  simp only [PyData.canLay0, PyData.depth]
  exact ⟨q.1, decide_eq_true (by omega)⟩
mutual
theorem eqv_iff {n m : Nat} : ∀ a b : Dt, ok n a = true → ok m b = true → (PyData.eqv (py a) (py b) = true ↔ a = b)
  | .bl _, _, h, _ => by simp [ok] at h
  | .non, b, _, hb => by
    cases b with
    | bl _ => simp [ok] at hb
    | _ => simp [py, PyData.eqv]
  | .int i, b, _, hb => by
    cases b with
    | bl _ => simp [ok] at hb
    | _ => simp [py, PyData.eqv]
  | .str x, b, _, hb => by
    cases b with
    | bl _ => simp [ok] at hb
    | _ => simp [py, PyData.eqv]
  | .tup xs, b, ha, hb => by
    cases b with
    | bl _ => simp [ok] at hb
    | tup ys =>
      obtain ⟨k, rfl, hk⟩ := of_ok_tup ha
      obtain ⟨j, rfl, hj⟩ := of_ok_tup hb
      simp only [py, PyData.eqv, Dt.tup.injEq]
      exact eqvAll_iff xs ys (okAll_iff.mpr hk) (okAll_iff.mpr hj)
    | _ => simp [py, PyData.eqv]
theorem eqvAll_iff {n m : Nat} : ∀ xs ys : List Dt, okAll n xs = true → okAll m ys = true → (PyData.eqvAll (pyAll xs) (pyAll ys) = true ↔ xs = ys)
  | [], [], _, _ => by simp [pyAll, PyData.eqvAll]
  | [], _ :: _, _, _ => by simp [pyAll, PyData.eqvAll]
  | _ :: _, [], _, _ => by simp [pyAll, PyData.eqvAll]
  | x :: xs, y :: ys, ha, hb => by
    simp only [okAll, Bool.and_eq_true] at ha hb
    simp only [pyAll, PyData.eqvAll, Bool.and_eq_true, List.cons.injEq]
    rw [eqv_iff x y ha.1 hb.1, eqvAll_iff xs ys ha.2 hb.2]
end
theorem eqv_is {n m : Nat} {a b : Dt} {c : Bool} (ha : ok n a = true) (hb : ok m b = true) (h : c = true ↔ a = b) : PyData.eqv (py a) (py b) = c := by
  rw [Bool.eq_iff_iff, eqv_iff a b ha hb, h]
/-- among -/
theorem any_is {n m : Nat} {d : Dt} {ds : List Dt} {c : Bool} (hd : ok n d = true) (hs : ∀ e ∈ ds, ok m e = true) (h : c = true ↔ d ∈ ds) : (pyAll ds).any (fun z => PyData.eqv z (py d)) = c := by
  rw [Bool.eq_iff_iff, pyAll_map, List.any_map, List.any_eq_true, h]
  constructor
  · rintro ⟨e, he, q⟩
    rw [← (eqv_iff e d (hs e he) hd).mp q]
    exact he
  · intro q
    exact ⟨d, q, (eqv_iff d d (hs d q) hd).mpr rfl⟩

/-! ### a value is a datum in a heap -/
mutual
inductive Im (K : PySem.W.Frag) (H : Hp) : V → Dt → Prop
  | non : Im K H .non .non
  | bl (b : Bool) : Im K H (.bl b) (.bl b)
  | int (i : Int) : Im K H (.int i) (.int i)
  | str (x : Str) : Im K H (.str x) (.str x)
  | tup {a : Addr} {xs : List V} {ds : List Dt} : SqT K H a xs → ImAll K H xs ds → Im K H (.ref a) (.tup ds)
inductive ImAll (K : PySem.W.Frag) (H : Hp) : List V → List Dt → Prop
  | nil : ImAll K H [] []
  | cons {v : V} {vs : List V} {d : Dt} {ds : List Dt} : Im K H v d → ImAll K H vs ds → ImAll K H (v :: vs) (d :: ds)
end
section
variable {K : PySem.W.Frag} {H H' H1 H2 : Hp} {v : V} {vs : List V} {d : Dt} {ds es : List Dt}
mutual
theorem Im.dp : ∀ (d : Dt) (v : V), Im K H v d → Dp K H v (py d)
  | .non, _, h => by
    cases h
    simp only [py]
    exact .non
  | .bl b, _, h => by
    cases h
    simp only [py]
    exact .bl b
  | .int i, _, h => by
    cases h
    simp only [py]
    exact .int i
  | .str x, _, h => by
    cases h
    simp only [py]
    exact .str x
  | .tup ds, _, h => by
    cases h with
    | tup h1 h2 =>
      simp only [py]
      exact .tup h1 (ImAll.dp ds _ h2)
theorem ImAll.dp : ∀ (ds : List Dt) (vs : List V), ImAll K H vs ds → DpAll K H vs (pyAll ds)
  | [], _, h => by
    cases h
    simp only [pyAll]
    exact .nil
  | d :: ds, _, h => by
    cases h with
    | cons h1 h2 =>
      simp only [pyAll]
      exact .cons (Im.dp d _ h1) (ImAll.dp ds _ h2)
end
/-! ### how heaps go on -/
/-- tuples and what is locked stay; tables grow; nothing tracked is lost -/
structure Kp (H H' : Hp) : Prop where
  tup : ∀ b xs, H b = some (.tup xs) → H' b = some (.tup xs)
  frz : ∀ b o u, H b = some (.frz o u) → H' b = some (.frz o u)
  tab : ∀ b ps, H b = some (.tbl ps) → ∃ ps' : Array Value, H' b = some (.tbl ps') ∧ (TriplesOk ps.toList → TriplesOk ps'.toList)
  live : ∀ b, H' b = none → H b = none
theorem Kp.refl (H : Hp) : Kp H H := ⟨fun _ _ h => h, fun _ _ _ h => h, fun _ ps h => ⟨ps, h, fun z => z⟩, fun _ h => h⟩
theorem Kp.trans (a : Kp H H1) (b : Kp H1 H2) : Kp H H2 :=
  ⟨fun c xs h => b.tup c xs (a.tup c xs h), fun c o u h => b.frz c o u (a.frz c o u h), fun c ps h => by
    obtain ⟨p1, h1, z1⟩ := a.tab c ps h
    obtain ⟨p2, h2, z2⟩ := b.tab c p1 h1
    exact ⟨p2, h2, fun z => z2 (z1 z)⟩, fun c h => a.live c (b.live c h)⟩
theorem Kp.sqT {a : Addr} {xs : List V} (e : Kp H H') (h : SqT K H a xs) : SqT K H' a xs := by
  rcases h with (h | ⟨o, h⟩) | h
  · exact .inl (.inl (e.tup _ _ h))
  · exact .inl (.inr ⟨o, e.frz _ _ _ h⟩)
  · exact .inr h
mutual
theorem Im.kp (e : Kp H H') : ∀ (d : Dt) (v : V), Im K H v d → Im K H' v d
  | .non, _, h => by
    cases h
    exact .non
  | .bl b, _, h => by
    cases h
    exact .bl b
  | .int i, _, h => by
    cases h
    exact .int i
  | .str x, _, h => by
    cases h
    exact .str x
  | .tup ds, _, h => by
    cases h with
    | tup h1 h2 => exact .tup (e.sqT h1) (ImAll.kp e ds _ h2)
theorem ImAll.kp (e : Kp H H') : ∀ (ds : List Dt) (vs : List V), ImAll K H vs ds → ImAll K H' vs ds
  | [], _, h => by
    cases h
    exact .nil
  | d :: ds, _, h => by
    cases h with
    | cons h1 h2 => exact .cons (Im.kp e d _ h1) (ImAll.kp e ds _ h2)
end
theorem Im.to (h : Im K H v d) (e : Kp H H') : Im K H' v d := Im.kp e d v h
theorem ImAll.to (h : ImAll K H vs ds) (e : Kp H H') : ImAll K H' vs ds := ImAll.kp e ds vs h
theorem ImAll.length : ∀ {vs : List V} {ds : List Dt}, ImAll K H vs ds → vs.length = ds.length
  | _, _, .nil => rfl
  | _, _, .cons _ t => by simp [ImAll.length t]
theorem ImAll.get : ∀ {vs : List V} {ds : List Dt} {i : Nat} {d : Dt}, ImAll K H vs ds → ds[i]? = some d → ∃ v, vs[i]? = some v ∧ Im K H v d
  | _, _, _, _, .nil, e => by simp at e
  | _, _, 0, _, .cons r _, e => by
    simp at e
    subst e
    exact ⟨_, rfl, r⟩
  | _, _, i + 1, d, .cons _ t, e => by
    obtain ⟨u, h1, h2⟩ := ImAll.get (i := i) (d := d) t (by simpa using e)
    exact ⟨u, by simpa using h1, h2⟩
theorem ImAll.getv : ∀ {vs : List V} {ds : List Dt} {i : Nat} {v : V}, ImAll K H vs ds → vs[i]? = some v → ∃ d, ds[i]? = some d ∧ Im K H v d
  | _, _, _, _, .nil, e => by simp at e
  | _, _, 0, _, .cons r _, e => by
    simp at e
    subst e
    exact ⟨_, rfl, r⟩
  | _, _, i + 1, v, .cons _ t, e => by
    obtain ⟨u, h1, h2⟩ := ImAll.getv (i := i) (v := v) t (by simpa using e)
    exact ⟨u, by simpa using h1, h2⟩
theorem ImAll.append : ∀ {vs ws : List V} {ds es : List Dt}, ImAll K H vs ds → ImAll K H ws es → ImAll K H (vs ++ ws) (ds ++ es)
  | _, _, _, _, .nil, s => s
  | _, _, _, _, .cons r t, s => .cons r (ImAll.append t s)
theorem ImAll.take (n : Nat) : ∀ {vs : List V} {ds : List Dt}, ImAll K H vs ds → ImAll K H (vs.take n) (ds.take n) := by
  induction n with
  | zero =>
    intro vs ds _
    simp only [List.take_zero]
    exact .nil
  | succ n ih =>
    intro vs ds h
    cases h with
    | nil =>
      simp only [List.take_nil]
      exact .nil
    | cons r t =>
      simp only [List.take_succ_cons]
      exact .cons r (ih t)
theorem ImAll.drop (n : Nat) : ∀ {vs : List V} {ds : List Dt}, ImAll K H vs ds → ImAll K H (vs.drop n) (ds.drop n) := by
  induction n with
  | zero =>
    intro vs ds h
    exact h
  | succ n ih =>
    intro vs ds h
    cases h with
    | nil =>
      simp only [List.drop_nil]
      exact .nil
    | cons r t =>
      simp only [List.drop_succ_cons]
      exact ih t
theorem ImAll.eraseIdx (n : Nat) : ∀ {vs : List V} {ds : List Dt}, ImAll K H vs ds → ImAll K H (vs.eraseIdx n) (ds.eraseIdx n) := by
  induction n with
  | zero =>
    intro vs ds h
    cases h with
    | nil => exact .nil
    | cons r t => exact t
  | succ n ih =>
    intro vs ds h
    cases h with
    | nil => exact .nil
    | cons r t => exact .cons r (ih t)
theorem ImAll.set (n : Nat) : ∀ {vs : List V} {ds : List Dt}, ImAll K H vs ds → Im K H v d → ImAll K H (vs.set n v) (ds.set n d) := by
  induction n with
  | zero =>
    intro vs ds h q
    cases h with
    | nil => exact .nil
    | cons r t => exact .cons q t
  | succ n ih =>
    intro vs ds h q
    cases h with
    | nil => exact .nil
    | cons r t => exact .cons r (ih t q)
theorem ImAll.strs : ∀ xs : List Str, ImAll K H (xs.map V.str) (xs.map Dt.str)
  | [] => .nil
  | x :: xs => .cons (.str x) (ImAll.strs xs)
theorem ImAll.ints : ∀ xs : List Int, ImAll K H (xs.map V.int) (xs.map Dt.int)
  | [] => .nil
  | x :: xs => .cons (.int x) (ImAll.ints xs)
theorem ImAll.to_ints : ∀ {vs : List V} {xs : List Int}, ImAll K H vs (xs.map Dt.int) → vs = xs.map V.int
  | _, [], h => by cases h; rfl
  | _, x :: xs, h => by
    cases h with
    | cons h1 h2 =>
      cases h1
      rw [ImAll.to_ints h2]
      rfl

/-- all tracked things but those at A are as they were (tables grow) -/
structure Chg (A : List Addr) (H H' : Hp) : Prop where
  kp : Kp H H'
  obj : ∀ b o, b ∉ A → H b = some o → (∀ ps, o ≠ .tbl ps) → H' b = some o
abbrev Ext : Hp → Hp → Prop := Chg []
theorem Chg.refl (A : List Addr) (H : Hp) : Chg A H H := ⟨.refl H, fun _ _ _ h _ => h⟩
theorem Ext.refl (H : Hp) : Ext H H := Chg.refl [] H
theorem Chg.trans {A : List Addr} (a : Chg A H H1) (b : Chg A H1 H2) : Chg A H H2 :=
  ⟨a.kp.trans b.kp, fun c o n h t => b.obj c o n (a.obj c o n h t) t⟩
theorem Ext.trans (a : Ext H H1) (b : Ext H1 H2) : Ext H H2 := Chg.trans a b
theorem Ext.chg {A : List Addr} (a : Ext H H1) : Chg A H H1 := ⟨a.kp, fun c o _ h t => a.obj c o (by simp) h t⟩
theorem Chg.mono {A B : List Addr} (a : Chg A H H1) (h : ∀ b ∈ A, b ∈ B) : Chg B H H1 := ⟨a.kp, fun c o n q t => a.obj c o (fun z => n (h c z)) q t⟩
/-- what was changed stood not there at first -/
theorem Chg.ext {A : List Addr} (a : Chg A H H1) (h : ∀ b ∈ A, H b = none) : Ext H H1 := ⟨a.kp, fun c o _ q t => a.obj c o (fun z => by rw [h c z] at q; cases q) q t⟩
theorem Ext.get {b : Addr} {o : HO} (a : Ext H H') (h : H b = some o) (t : ∀ ps, o ≠ .tbl ps := by intro ps z; cases z) : H' b = some o := a.obj b o (by simp) h t
theorem Ext.lst {b : Addr} {xs : List V} (a : Ext H H') (h : H b = some (.lst xs)) : H' b = some (.lst xs) := a.get h
theorem Ext.free {l : Addr} (a : Ext H H') (h : H' l = none) : H l = none := a.kp.live l h
theorem Ext.new {p : Addr} {o : HO} (h : H p = none) : Ext H (upd H p o) := by
  have ne : ∀ b u, H b = some u → b ≠ p := fun b u e z => by rw [z, h] at e; cases e
  refine ⟨⟨fun b xs e => ?_, fun b o u e => ?_, fun b ps e => ⟨ps, ?_, fun z => z⟩, fun b e => ?_⟩, fun b u _ e _ => ?_⟩
  · rw [upd_ne (ne b _ e)]
    exact e
  · rw [upd_ne (ne b _ e)]
    exact e
  · rw [upd_ne (ne b _ e)]
    exact e
  · by_cases hb : b = p
    · rw [hb]
      exact h
    · rw [upd_ne hb] at e
      exact e
  · rw [upd_ne (ne b _ e)]
    exact e
/-- a thing that may be written is written -/
theorem Chg.put {p : Addr} {o u : HO} (h : H p = some u) (n1 : ∀ xs, u ≠ .tup xs := by intro xs z; cases z) (n2 : ∀ o v, u ≠ .frz o v := by intro o v z; cases z) (n3 : ∀ ps, u ≠ .tbl ps := by intro ps z; cases z) : Chg [p] H (upd H p o) := by
  refine ⟨⟨fun b xs e => ?_, fun b o u' e => ?_, fun b ps e => ⟨ps, ?_, fun z => z⟩, fun b e => ?_⟩, fun b u' nb e _ => ?_⟩
  · rw [upd_ne (fun z => by rw [z, h] at e; exact n1 _ (Option.some.inj e))]
    exact e
  · rw [upd_ne (fun z => by rw [z, h] at e; exact n2 _ _ (Option.some.inj e))]
    exact e
  · rw [upd_ne (fun z => by rw [z, h] at e; exact n3 _ (Option.some.inj e))]
    exact e
  · by_cases hb : b = p
    · rw [hb, upd_same] at e
      cases e
    · rw [upd_ne hb] at e
      exact e
  · rw [upd_ne (fun z => nb (by rw [z]; simp))]
    exact e
theorem Ext.seqL {a : Addr} {xs : List V} (e : Ext H H') (h : SqL K H a xs) : SqL K H' a xs := by
  rcases h with (h | ⟨o, h⟩) | h
  · exact .inl (.inl (e.get h))
  · exact .inl (.inr ⟨o, e.get h⟩)
  · exact .inr h
/-- the tables of code objects -/
def Tabs (TL : List Addr) (H : Hp) : Prop := ∀ P ∈ TL, GxR.TabG H P
theorem Kp.tabG {P : Addr} (e : Kp H H') (h : GxR.TabG H P) : GxR.TabG H' P := by
  obtain ⟨ps, h1, h2⟩ := h
  obtain ⟨ps', q1, q2⟩ := e.tab P ps h1
  exact ⟨ps', q1, q2 h2⟩
theorem Tabs.to {TL : List Addr} (h : Tabs TL H) (e : Kp H H') : Tabs TL H' := fun P hP => e.tabG (h P hP)

/-- a list of data -/
def LsM (K : PySem.W.Frag) (H : Hp) (l : Addr) (ds : List Dt) : Prop := ∃ xs, H l = some (.lst xs) ∧ ImAll K H xs ds
theorem LsM.to {l : Addr} (h : LsM K H l ds) (e : Ext H H') : LsM K H' l ds := by
  obtain ⟨xs, h1, h2⟩ := h
  exact ⟨xs, e.get h1, h2.to e.kp⟩
theorem LsM.chg {A : List Addr} {l : Addr} (h : LsM K H l ds) (e : Chg A H H') (n : l ∉ A) : LsM K H' l ds := by
  obtain ⟨xs, h1, h2⟩ := h
  exact ⟨xs, e.obj l _ n h1 (by intro ps z; cases z), h2.to e.kp⟩
theorem LsM.ne {l p : Addr} (h : LsM K H l ds) (q : H p = none) : l ≠ p := by
  obtain ⟨xs, h1, _⟩ := h
  exact ne_of_none h1 q
end
end K29
set_option Elab.async false
set_option linter.all false
set_option maxRecDepth 100000
set_option maxHeartbeats 4000000
/-! what an expression is worth over data; statements step by step -/
namespace K29
open PySem PySem.Spec PyProof.Rows L2
/-! ### rules that serve several kinds -/
section
variable {X : Cx}
def rAddX (K : PySem.W.Frag) : R2 := fun x y H Q => (∃ i j, x = .int i ∧ y = .int j ∧ Q (.int (i + j)) H) ∨ rCatA K x y H Q ∨ rCat x y H Q
theorem op_addX : OpR X (binaryOp .Add) (rAddX X.K) := by
  intro pins s σ H x y v u Q I rx ry h
  rcases h with h | h | h
  · exact op_add pins s σ H x y v u Q I rx ry h
  · exact op_catA pins s σ H x y v u Q I rx ry h
  · exact op_cat pins s σ H x y v u Q I rx ry h
def rSubX : R2 := rI0 fun i j => .int (i - j)
theorem op_subX : OpR X (binaryOp .Sub) rSubX := op_sub
def rLtX : R2 := rI0 fun i j => .bl (decide (i < j))
def rLeX : R2 := rI0 fun i j => .bl (decide (i ≤ j))
def rGtX : R2 := rI0 fun i j => .bl (decide (j < i))
def rGeX : R2 := rI0 fun i j => .bl (decide (j ≤ i))
theorem op_ltX : OpR X (compareOp .Lt) rLtX := op_lt
theorem op_leX : OpR X (compareOp .LtE) rLeX := op_le
theorem op_gtX : OpR X (compareOp .Gt) rGtX := op_gt
theorem op_geX : OpR X (compareOp .GtE) rGeX := op_ge
/-- among the items of a list or a tuple -/
def rInX (K : PySem.W.Frag) (neg : Bool) : R2 := fun x y H Q => ∃ d ds, Dp K H x d ∧ (Dp K H y (.list ds) ∨ Dp K H y (.tuple ds)) ∧ SeqAt.shaped d = true ∧ SeqAt.shaped (.list ds) = true ∧ Q (.bl (if neg then !(ds.any fun z => PyData.eqv z d) else ds.any fun z => PyData.eqv z d)) H
theorem op_inX (hu : X.A.units + 65 < cLine) : OpR X (compareOp .In) (rInX X.K false) := by
  intro pins s σ H x y v u Q I rx ry h
  obtain ⟨d, ds, hd, he, sd, se, q⟩ := h
  obtain ⟨as, r1⟩ := Dp.reads I d x v hd rx
  have hs := SeqAt.canLay_of_shaped sd
  have hl := SeqAt.canLay_of_shaped se
  have hr : X.A.units + 1 + min (PyData.depthAll ds) d.depth < cLine := by
    have h1 := SeqAt.depth_of_shaped sd
    have h2 : min (PyData.depthAll ds) d.depth ≤ d.depth := Nat.min_le_right _ _
    omega
  rcases he with he | he
  · obtain ⟨bs, r2⟩ := Dp.reads I _ y u he ry
    exact SeqAt.in_list_reads r2 r1 hl hs hr ⟨.bl _, H, I, rfl, q⟩
  · obtain ⟨bs, r2⟩ := Dp.reads I _ y u he ry
    exact SeqAt.in_tuple_reads r2 r1 hl hs hr ⟨.bl _, H, I, rfl, q⟩
theorem op_ninX (hu : X.A.units + 65 < cLine) : OpR X (compareOp .NotIn) (rInX X.K true) := by
  intro pins s σ H x y v u Q I rx ry h
  obtain ⟨d, ds, hd, he, sd, se, q⟩ := h
  obtain ⟨as, r1⟩ := Dp.reads I d x v hd rx
  have hs := SeqAt.canLay_of_shaped sd
  have hl := SeqAt.canLay_of_shaped se
  have hr : X.A.units + 1 + min (PyData.depthAll ds) d.depth < cLine := by
    have h1 := SeqAt.depth_of_shaped sd
    have h2 : min (PyData.depthAll ds) d.depth ≤ d.depth := Nat.min_le_right _ _
    omega
  rcases he with he | he
  · obtain ⟨bs, r2⟩ := Dp.reads I _ y u he ry
    exact SeqAt.notIn_list_reads r2 r1 hl hs hr ⟨.bl _, H, I, rfl, q⟩
  · obtain ⟨bs, r2⟩ := Dp.reads I _ y u he ry
    exact SeqAt.notIn_tuple_reads r2 r1 hl hs hr ⟨.bl _, H, I, rfl, q⟩
def rSlX (K : PySem.W.Frag) : V → Option Int → Option Int → Hp → VK → Prop := fun x lo hi H Q => rSlA K x lo hi H Q ∨ rSlL K x lo hi H Q
theorem sl_X : SlR X (rSlX X.K) := by
  intro pins s σ H x v vl vu lo hi sl Q I rx hs pl pu h
  rcases h with h | h
  · exact sl_tupA pins s σ H x v vl vu lo hi sl Q I rx hs pl pu h
  · exact sl_list pins s σ H x v vl vu lo hi sl Q I rx hs pl pu h
def rLenX (K : PySem.W.Frag) : List V → Hp → VK → Prop := fun xs H Q => ∃ x n, xs = [x] ∧ LenV K x H n ∧ Q (.int n) H
theorem call_lenX : CallR X (.builtin "len") (rLenX X.K) := call_len
def rTupX (K : PySem.W.Frag) : List V → Hp → VK → Prop := fun xs H Q => ∃ p ys, xs = [.ref p] ∧ ((SqL K H p ys ∧ ∀ l, H l = none → Q (.ref l) (upd H l (.tup ys))) ∨ (SqT K H p ys ∧ Q (.ref p) H))
theorem call_tupX : CallR X (.type "tuple") (rTupX X.K) := call_tuple_of
def rLstX (K : PySem.W.Frag) : List V → Hp → VK → Prop := fun xs H Q => ∃ p ys, xs = [.ref p] ∧ (SqL K H p ys ∨ SqT K H p ys) ∧ ∀ l, H l = none → Q (.ref l) (upd H l (.lst ys))
theorem call_lstX : CallR X (.type "list") (rLstX X.K) := call_list_of
def rIntX : List V → Hp → VK → Prop := fun xs H Q => (∃ i, xs = [.int i] ∧ Q (.int i) H) ∨ ∃ k, xs = [.bl k] ∧ Q (.int (if k then 1 else 0)) H
theorem call_intX : CallR X (.type "int") rIntX := call_int1
/-- isinstance of a datum -/
def isiB : Dt → String → Option Bool
  | .non, T => kitB "NoneType" T
  | .bl _, T => kitB "bool" T
  | .int _, T => kitB "int" T
  | .str _, T => kitB "str" T
  | .tup _, T => kitB "tuple" T
def rIsiX (K : PySem.W.Frag) : List V → Hp → VK → Prop := fun xs H Q => ∃ (x : V) (d : Dt) (T : String) (b : Bool), xs = [x, .ty T] ∧ Im K H x d ∧ isiB d T = some b ∧ Q (.bl b) H
theorem call_isiX : CallR X (.builtin "isinstance") (rIsiX X.K) := by
  intro pins s σ H xs us Q I r h
  obtain ⟨x, d, T, b, rfl, hd, hb, q⟩ := h
  refine call_isi pins s σ H _ us Q I r ?_
  cases hd with
  | non => exact ⟨_, _, _, _, b, rfl, .ty T, .base .non, kit_ty hb, q⟩
  | bl k => exact ⟨_, _, _, _, b, rfl, .ty T, .base (.bl k), kit_ty hb, q⟩
  | int i => exact ⟨_, _, _, _, b, rfl, .ty T, .base (.int i), kit_ty hb, q⟩
  | str z => exact ⟨_, _, _, _, b, rfl, .ty T, .base (.str z), kit_ty hb, q⟩
  | tup hs _ =>
    rcases hs with (hs | ⟨o, hs⟩) | ⟨o, its, n, hs, hc, _⟩
    · exact ⟨_, _, _, _, b, rfl, .ty T, .base (.tup hs), kit_ty hb, q⟩
    · exact ⟨_, _, _, _, b, rfl, .ty T, .fTuple hs, kit_ty hb, q⟩
    · exact ⟨_, _, _, _, b, rfl, .ty T, .kTuple hs hc, kit_ty hb, q⟩
end

/-! ### the worth -/
def EdV (te : TE) (σ : L2.St) (H : Hp) (v : V) : Prop := ∀ H1, Ext H H1 → ∀ Q : VK, (∀ H2, Ext H1 H2 → Q v H2) → te σ H1 Q
def Ed (K : PySem.W.Frag) (te : TE) (σ : L2.St) (H : Hp) (d : Dt) : Prop := ∀ H1, Ext H H1 → ∀ Q : VK, (∀ v H2, Ext H1 H2 → Im K H2 v d → Q v H2) → te σ H1 Q
/-- a list to be read -/
def LsR (K : PySem.W.Frag) (H : Hp) (l : Addr) (ds : List Dt) : Prop := ∃ xs, SqL K H l xs ∧ ImAll K H xs ds
def EdL (K : PySem.W.Frag) (te : TE) (σ : L2.St) (H : Hp) (ds : List Dt) : Prop := ∀ H1, Ext H H1 → ∀ Q : VK, (∀ l H2, Ext H1 H2 → LsR K H2 l ds → Q (.ref l) H2) → te σ H1 Q
/-- a new list -/
def EdN (K : PySem.W.Frag) (te : TE) (σ : L2.St) (H : Hp) (ds : List Dt) : Prop := ∀ H1, Ext H H1 → ∀ Q : VK, (∀ l H2, Ext H1 H2 → H1 l = none → LsM K H2 l ds → Q (.ref l) H2) → te σ H1 Q
def EdT (tt : TT) (σ : L2.St) (H : Hp) (b : Bool) : Prop := ∀ H1, Ext H H1 → ∀ Q : Bool → Hp → Prop, (∀ H2, Ext H1 H2 → Q b H2) → tt σ H1 Q
def EdA (K : PySem.W.Frag) (ta : TA) (σ : L2.St) (H : Hp) (ds : List Dt) : Prop := ∀ H1, Ext H H1 → ∀ Q : List V → Hp → Prop, (∀ vs H2, Ext H1 H2 → ImAll K H2 vs ds → Q vs H2) → ta σ H1 Q
def EdO (to : TO) (σ : L2.St) (H : Hp) (o : Option Int) : Prop := ∀ H1, Ext H H1 → ∀ Q : Option Int → Hp → Prop, (∀ H2, Ext H1 H2 → Q o H2) → to σ H1 Q
/-- an operator upon two data -/
def RD (K : PySem.W.Frag) (r : R2) (a b d : Dt) : Prop := ∀ x y H1, Im K H1 x a → Im K H1 y b → ∀ Q : VK, (∀ v H2, Ext H1 H2 → Im K H2 v d → Q v H2) → r x y H1 Q
section
variable {K : PySem.W.Frag} {H H' H0 H1 H2 : Hp} {σ : L2.St} {v x y z : V} {a b c d : Dt} {ds es : List Dt} {te ta tb tc : TE} {r r' : R2} {t u : TT}
theorem LsM.rd {l : Addr} (h : LsM K H l ds) : LsR K H l ds := by
  obtain ⟨xs, h1, h2⟩ := h
  exact ⟨xs, .inl (.inl h1), h2⟩
theorem LsR.to {l : Addr} (h : LsR K H l ds) (e : Ext H H') : LsR K H' l ds := by
  obtain ⟨xs, h1, h2⟩ := h
  exact ⟨xs, e.seqL h1, h2.to e.kp⟩
theorem sizeSmall {n : Nat} (h : n ≤ 1000000) : n ≤ sizeLine := Nat.le_trans h (by decide)
theorem Ed.mono (e : Ext H H') (h : Ed K te σ H d) : Ed K te σ H' d := fun H1 a Q q => h H1 (e.trans a) Q q
theorem EdV.mono (e : Ext H H') (h : EdV te σ H v) : EdV te σ H' v := fun H1 a Q q => h H1 (e.trans a) Q q
theorem EdT.mono {k : Bool} (e : Ext H H') (h : EdT t σ H k) : EdT t σ H' k := fun H1 a Q q => h H1 (e.trans a) Q q
theorem EdN.l (h : EdN K te σ H ds) : EdL K te σ H ds := fun H1 e Q q => h H1 e Q fun l H2 e2 _ hl => q l H2 e2 hl.rd
theorem Ed.is (h : Ed K te σ H d) (e : d = c) : Ed K te σ H c := e ▸ h
/-! places -/
theorem ev_var {i : Nat} (h : σ[i]? = some (some v)) : EdV (tVar i) σ H v := fun H1 _ _ q => ⟨v, h, q H1 (Ext.refl H1)⟩
theorem ev_fld {f : Str} {p C dx : Addr} {fs : List (Str × V)} (h : EdV ta σ H (.ref p)) (ho : H p = some (.ins C dx fs)) (hc : Cls K C) (hn : NoAttr K C f) (hl : fs.lookup f = some v) : EdV (tFld K ta f) σ H v := fun H1 e Q q =>
  h H1 e _ fun H2 e2 => ⟨p, C, dx, fs, v, rfl, (e.trans e2).get ho, hc, hn, hl, q H2 e2⟩
theorem ed_of (h : EdV te σ H v) (hd : Im K H0 v d) (e : Kp H0 H) : Ed K te σ H d := fun H1 e1 Q q => h H1 e1 Q fun H2 e2 => q v H2 e2 (hd.to ((e.trans e1.kp).trans e2.kp))
theorem el_of {l : Addr} (h : EdV te σ H (.ref l)) (hd : LsR K H l ds) : EdL K te σ H ds := fun H1 e1 Q q => h H1 e1 Q fun H2 e2 => q l H2 e2 (hd.to (e1.trans e2))
theorem ed_var {i : Nat} (h : σ[i]? = some (some v)) (hd : Im K H0 v d) (e : Kp H0 H) : Ed K (tVar i) σ H d := ed_of (ev_var h) hd e
theorem el_var {i : Nat} {l : Addr} (h : σ[i]? = some (some (.ref l))) (hd : LsM K H l ds) : EdL K (tVar i) σ H ds := el_of (ev_var h) hd.rd
/-! constants -/
theorem ed_non : Ed K (tC .non) σ H .non := fun H1 _ _ q => q _ H1 (Ext.refl H1) .non
theorem ed_int {i : Int} : Ed K (tC (.int i)) σ H (.int i) := fun H1 _ _ q => q _ H1 (Ext.refl H1) (.int i)
theorem ed_str {x : Str} : Ed K (tC (.str x)) σ H (.str x) := fun H1 _ _ q => q _ H1 (Ext.refl H1) (.str x)
theorem ed_bl {k : Bool} : Ed K (tC (.bl k)) σ H (.bl k) := fun H1 _ _ q => q _ H1 (Ext.refl H1) (.bl k)
theorem ed_cst (h : ∀ H, Im K H v d) : Ed K (tC v) σ H d := fun H1 _ _ q => q _ H1 (Ext.refl H1) (h H1)
/-! operators -/
theorem ed_op (ha : Ed K ta σ H a) (hb : Ed K tb σ H b) (hr : RD K r a b d) : Ed K (tOp r ta tb) σ H d := fun H1 e Q q =>
  ha H1 e _ fun x H2 e2 h2 => hb H2 (e.trans e2) _ fun y H3 e3 h3 => hr x y H3 (h2.to e3.kp) h3 _ fun v H4 e4 h4 => q v H4 (e2.trans (e3.trans e4)) h4
theorem rd_now (h : ∀ x y H1, Im K H1 x a → Im K H1 y b → ∀ Q : VK, (∀ v, Im K H1 v d → Q v H1) → r x y H1 Q) : RD K r a b d := fun x y H1 hx hy Q q => h x y H1 hx hy Q fun v hv => q v H1 (Ext.refl H1) hv
theorem rd_addI {i j : Int} : RD K (rAddX K) (.int i) (.int j) (.int (i + j)) := rd_now fun x y H1 hx hy Q q => by
  cases hx
  cases hy
  exact .inl ⟨i, j, rfl, rfl, q _ (.int _)⟩
theorem rd_addT (hz : ds.length + es.length ≤ 1000000) : RD K (rAddX K) (.tup ds) (.tup es) (.tup (ds ++ es)) := fun x y H1 hx hy Q q => by
  cases hx with
  | tup h1 h2 =>
    cases hy with
    | tup h3 h4 =>
      rename_i a xs b ys
      have l1 := h2.length
      have l2 := h4.length
      refine .inr (.inl ⟨a, b, xs, ys, rfl, rfl, h1, h3, sizeSmall (by omega), fun e => ?_, fun n e => ?_, fun n m p hp => ?_⟩)
      · subst e
        cases h2
        exact q _ H1 (Ext.refl H1) (.tup h3 h4)
      · subst e
        cases h4
        rw [List.append_nil] at q
        exact q _ H1 (Ext.refl H1) (.tup h1 h2)
      · have e1 : Ext H1 (upd H1 p (.tup (xs ++ ys))) := Ext.new hp
        exact q _ _ e1 (.tup (.inl (.inl upd_same)) ((h2.append h4).to e1.kp))
theorem rd_sub {i j : Int} : RD K rSubX (.int i) (.int j) (.int (i - j)) := rd_now fun x y H1 hx hy Q q => by
  cases hx
  cases hy
  exact ⟨i, j, rfl, rfl, q _ (.int _)⟩
theorem rd_lt {i j : Int} : RD K rLtX (.int i) (.int j) (.bl (decide (i < j))) := rd_now fun x y H1 hx hy Q q => by
  cases hx
  cases hy
  exact ⟨i, j, rfl, rfl, q _ (.bl _)⟩
theorem rd_le {i j : Int} : RD K rLeX (.int i) (.int j) (.bl (decide (i ≤ j))) := rd_now fun x y H1 hx hy Q q => by
  cases hx
  cases hy
  exact ⟨i, j, rfl, rfl, q _ (.bl _)⟩
theorem rd_gt {i j : Int} : RD K rGtX (.int i) (.int j) (.bl (decide (j < i))) := rd_now fun x y H1 hx hy Q q => by
  cases hx
  cases hy
  exact ⟨i, j, rfl, rfl, q _ (.bl _)⟩
theorem rd_ge {i j : Int} : RD K rGeX (.int i) (.int j) (.bl (decide (j ≤ i))) := rd_now fun x y H1 hx hy Q q => by
  cases hx
  cases hy
  exact ⟨i, j, rfl, rfl, q _ (.bl _)⟩
theorem rd_eq {n m : Nat} {k : Bool} (ha : ok n a = true) (hb : ok m b = true) (h : k = true ↔ a = b) (ln : n ≤ 64 := by decide) (lm : m ≤ 64 := by decide) : RD K (rEqD K) a b (.bl k) := rd_now fun x y H1 hx hy Q q =>
  ⟨_, _, hx.dp a x, hy.dp b y, ok_shaped ha ln, ok_shaped hb lm, by
    rw [eqv_is ha hb h]
    exact q _ (.bl k)⟩
theorem rd_ne {n m : Nat} {k : Bool} (ha : ok n a = true) (hb : ok m b = true) (h : k = true ↔ a ≠ b) (ln : n ≤ 64 := by decide) (lm : m ≤ 64 := by decide) : RD K (rNeD K) a b (.bl k) := rd_now fun x y H1 hx hy Q q =>
  ⟨_, _, hx.dp a x, hy.dp b y, ok_shaped ha ln, ok_shaped hb lm, by
    have e : PyData.eqv (py a) (py b) = !k := eqv_is ha hb (by cases k <;> simp_all)
    rw [e, Bool.not_not]
    exact q _ (.bl k)⟩
theorem rd_inT {n m : Nat} {k : Bool} (ha : ok n a = true) (hb : ∀ e ∈ ds, ok m e = true) (h : k = true ↔ a ∈ ds) (ln : n ≤ 64 := by decide) (lm : m < 64 := by decide) : RD K (rInX K false) a (.tup ds) (.bl k) := rd_now fun x y H1 hx hy Q q =>
  ⟨_, pyAll ds, hx.dp a x, .inr (by have := hy.dp _ y; simpa only [py] using this), ok_shaped ha ln, ok_shapedL hb lm, by
    rw [any_is ha hb h]
    exact q _ (.bl k)⟩
theorem rd_ninT {n m : Nat} {k : Bool} (ha : ok n a = true) (hb : ∀ e ∈ ds, ok m e = true) (h : k = true ↔ a ∉ ds) (ln : n ≤ 64 := by decide) (lm : m < 64 := by decide) : RD K (rInX K true) a (.tup ds) (.bl k) := rd_now fun x y H1 hx hy Q q =>
  ⟨_, pyAll ds, hx.dp a x, .inr (by have := hy.dp _ y; simpa only [py] using this), ok_shaped ha ln, ok_shapedL hb lm, by
    rw [any_is (c := !k) ha hb (by cases k <;> simp_all)]
    simp only [if_true, Bool.not_not]
    exact q _ (.bl k)⟩
theorem Im.list {l : Addr} (h : LsR K H l ds) : Dp K H (.ref l) (.list (pyAll ds)) := by
  obtain ⟨xs, h1, h2⟩ := h
  exact .lst h1 (ImAll.dp ds xs h2)
theorem ed_inL {n m : Nat} {k : Bool} (h1 : Ed K ta σ H a) (h2 : EdL K tb σ H ds) (ha : ok n a = true) (hb : ∀ e ∈ ds, ok m e = true) (h : k = true ↔ a ∈ ds) (ln : n ≤ 64 := by decide) (lm : m < 64 := by decide) : Ed K (tOp (rInX K false) ta tb) σ H (.bl k) := fun H1 e Q q =>
  h1 H1 e _ fun x H2 e2 q2 => h2 H2 (e.trans e2) _ fun l H3 e3 q3 => ⟨_, pyAll ds, (q2.to e3.kp).dp a x, .inl (Im.list q3), ok_shaped ha ln, ok_shapedL hb lm, by
    rw [any_is ha hb h]
    exact q _ H3 (e2.trans e3) (.bl k)⟩
theorem ed_ninL {n m : Nat} {k : Bool} (h1 : Ed K ta σ H a) (h2 : EdL K tb σ H ds) (ha : ok n a = true) (hb : ∀ e ∈ ds, ok m e = true) (h : k = true ↔ a ∉ ds) (ln : n ≤ 64 := by decide) (lm : m < 64 := by decide) : Ed K (tOp (rInX K true) ta tb) σ H (.bl k) := fun H1 e Q q =>
  h1 H1 e _ fun x H2 e2 q2 => h2 H2 (e.trans e2) _ fun l H3 e3 q3 => ⟨_, pyAll ds, (q2.to e3.kp).dp a x, .inl (Im.list q3), ok_shaped ha ln, ok_shapedL hb lm, by
    rw [any_is (c := !k) ha hb (by cases k <;> simp_all)]
    simp only [if_true, Bool.not_not]
    exact q _ H3 (e2.trans e3) (.bl k)⟩
/-- == of two lists -/
theorem ed_eqLL {n m : Nat} {k : Bool} (h1 : EdL K ta σ H ds) (h2 : EdL K tb σ H es) (ha : ∀ e ∈ ds, ok n e = true) (hb : ∀ e ∈ es, ok m e = true) (h : k = true ↔ ds = es) (ln : n < 64 := by decide) (lm : m < 64 := by decide) : Ed K (tOp (rEqD K) ta tb) σ H (.bl k) := fun H1 e Q q =>
  h1 H1 e _ fun x H2 e2 q2 => h2 H2 (e.trans e2) _ fun l H3 e3 q3 => ⟨_, _, Im.list (q2.to e3), Im.list q3, ok_shapedL ha ln, ok_shapedL hb lm, by
    have e4 : PyData.eqv (.list (pyAll ds)) (.list (pyAll es)) = k := by
      rw [Bool.eq_iff_iff, h]
      simp only [PyData.eqv]
      exact eqvAll_iff ds es (okAll_iff.mpr ha) (okAll_iff.mpr hb)
    rw [e4]
    exact q _ H3 (e2.trans e3) (.bl k)⟩
theorem ed_neLL {n m : Nat} {k : Bool} (h1 : EdL K ta σ H ds) (h2 : EdL K tb σ H es) (ha : ∀ e ∈ ds, ok n e = true) (hb : ∀ e ∈ es, ok m e = true) (h : k = true ↔ ds ≠ es) (ln : n < 64 := by decide) (lm : m < 64 := by decide) : Ed K (tOp (rNeD K) ta tb) σ H (.bl k) := fun H1 e Q q =>
  h1 H1 e _ fun x H2 e2 q2 => h2 H2 (e.trans e2) _ fun l H3 e3 q3 => ⟨_, _, Im.list (q2.to e3), Im.list q3, ok_shapedL ha ln, ok_shapedL hb lm, by
    have e4 : PyData.eqv (.list (pyAll ds)) (.list (pyAll es)) = !k := by
      rw [Bool.eq_iff_iff]
      simp only [PyData.eqv]
      rw [eqvAll_iff ds es (okAll_iff.mpr ha) (okAll_iff.mpr hb)]
      cases k <;> simp_all
    rw [e4, Bool.not_not]
    exact q _ H3 (e2.trans e3) (.bl k)⟩
theorem ImAll.at {xs : List V} {i : Int} (h : ImAll K H xs ds) (e : atI ds i = some d) : ∃ v, atI xs i = some v ∧ Im K H v d := by
  unfold atI at e ⊢
  rw [h.length]
  cases q : ixN ds.length i with
  | none =>
    rw [q] at e
    cases e
  | some j =>
    rw [q] at e
    exact h.get (show ds[j]? = some d from e)
theorem rd_ix {i : Int} (h : atI ds i = some d) : RD K (rIx K) (.tup ds) (.int i) d := rd_now fun x y H1 hx hy Q q => by
  cases hy
  cases hx with
  | tup h1 h2 =>
    obtain ⟨v, e, hv⟩ := h2.at h
    exact .inr (.inl ⟨_, _, i, v, rfl, rfl, h1, e, q v hv⟩)
theorem ed_ixL {i : Int} (h1 : EdL K ta σ H ds) (h2 : Ed K tb σ H (.int i)) (h : atI ds i = some d) : Ed K (tOp (rIx K) ta tb) σ H d := fun H1 e Q q =>
  h1 H1 e _ fun l H2 e2 q2 => h2 H2 (e.trans e2) _ fun y H3 e3 q3 => by
    obtain ⟨xs, s1, s2⟩ := q2.to e3
    cases q3
    obtain ⟨v, ev, hv⟩ := s2.at h
    exact .inl ⟨_, _, i, v, rfl, rfl, s1, ev, q v H3 (e2.trans e3) hv⟩
theorem ed_isN {k : Bool} (h : Ed K ta σ H a) (e : k = true ↔ a = .non) : Ed K (tIsN ta) σ H (.bl k) := fun H1 e1 Q q => h H1 e1 _ fun v H2 e2 hv => by
  have ek : decide (v = .non) = k := by
    rw [Bool.eq_iff_iff, decide_eq_true_iff, e]
    cases hv <;> simp
  show Q (.bl (decide (v = .non))) H2
  rw [ek]
  exact q _ H2 e2 (.bl k)
theorem ed_notN {k : Bool} (h : Ed K ta σ H a) (e : k = true ↔ a ≠ .non) : Ed K (tNotN ta) σ H (.bl k) := fun H1 e1 Q q => h H1 e1 _ fun v H2 e2 hv => by
  have ek : (!decide (v = .non)) = k := by
    rw [Bool.eq_iff_iff, Bool.not_eq_true', decide_eq_false_iff_not, e]
    cases hv <;> simp
  show Q (.bl (!decide (v = .non))) H2
  rw [ek]
  exact q _ H2 e2 (.bl k)
/-- low <= x <= high -/
theorem ed_chainLe {i j k : Int} (ha : Ed K ta σ H (.int i)) (hb : Ed K tb σ H (.int j)) (hc : Ed K tc σ H (.int k)) : Ed K (tChain rLeX rLeX ta tb tc) σ H (.bl (decide (i ≤ j) && decide (j ≤ k))) := fun H1 e Q q =>
  ha H1 e _ fun x H2 e2 h2 => hb H2 (e.trans e2) _ fun y H3 e3 h3 => by
    cases h2
    cases h3
    refine ⟨i, j, rfl, rfl, decide (i ≤ j), rfl, ?_⟩
    cases q1 : decide (i ≤ j) with
    | false =>
      rw [if_neg Bool.false_ne_true]
      rw [q1] at q
      exact q _ H3 (e2.trans e3) (.bl false)
    | true =>
      rw [if_pos rfl]
      rw [q1] at q
      refine hc H3 (e.trans (e2.trans e3)) _ fun z H4 e4 h4 => ?_
      cases h4
      exact ⟨j, k, rfl, rfl, q _ H4 (e2.trans (e3.trans e4)) (.bl _)⟩
/-! tests -/
theorem et_test {k : Bool} (h : Ed K te σ H (.bl k)) : EdT (tTest te) σ H k := fun H1 e _ q => h H1 e _ fun v H2 e2 hv => by
  cases hv
  exact ⟨k, rfl, q H2 e2⟩
theorem et_B {k : Bool} (h : Ed K te σ H (.bl k)) : EdT (tB te) σ H k := fun H1 e _ q => h H1 e _ fun v H2 e2 hv => by
  cases hv
  exact ⟨k, rfl, q H2 e2⟩
theorem et_and {k j : Bool} (h1 : EdT t σ H k) (h2 : k = true → EdT u σ H j) : EdT (tAnd t u) σ H (k && j) := fun H1 e Q q => h1 H1 e _ fun H2 e2 => by
  cases k with
  | false =>
    rw [if_neg Bool.false_ne_true]
    exact q H2 e2
  | true =>
    rw [if_pos rfl]
    exact h2 rfl H2 (e.trans e2) _ fun H3 e3 => q H3 (e2.trans e3)
theorem et_or {k j : Bool} (h1 : EdT t σ H k) (h2 : k = false → EdT u σ H j) : EdT (tOr t u) σ H (k || j) := fun H1 e Q q => h1 H1 e _ fun H2 e2 => by
  cases k with
  | true =>
    rw [if_pos rfl]
    exact q H2 e2
  | false =>
    rw [if_neg Bool.false_ne_true]
    exact h2 rfl H2 (e.trans e2) _ fun H3 e3 => q H3 (e2.trans e3)
theorem et_not {k : Bool} (h1 : EdT t σ H k) : EdT (tNot t) σ H (!k) := fun H1 e Q q => h1 H1 e _ fun H2 e2 => q H2 e2
theorem EdT.is {k j : Bool} (h : EdT t σ H k) (e : k = j) : EdT t σ H j := e ▸ h
theorem ed_andV {k j : Bool} (h1 : Ed K ta σ H (.bl k)) (h2 : k = true → Ed K tb σ H (.bl j)) : Ed K (tAndV ta tb) σ H (.bl (k && j)) := fun H1 e Q q => h1 H1 e _ fun v H2 e2 hv => by
  cases hv
  refine ⟨k, rfl, ?_⟩
  cases k with
  | false =>
    rw [if_neg Bool.false_ne_true]
    exact q _ H2 e2 (.bl false)
  | true =>
    rw [if_pos rfl]
    exact h2 rfl H2 (e.trans e2) _ fun v H3 e3 hv => q v H3 (e2.trans e3) hv
theorem ed_orV {k j : Bool} (h1 : Ed K ta σ H (.bl k)) (h2 : k = false → Ed K tb σ H (.bl j)) : Ed K (tOrV ta tb) σ H (.bl (k || j)) := fun H1 e Q q => h1 H1 e _ fun v H2 e2 hv => by
  cases hv
  refine ⟨k, rfl, ?_⟩
  cases k with
  | true =>
    rw [if_pos rfl]
    exact q _ H2 e2 (.bl true)
  | false =>
    rw [if_neg Bool.false_ne_true]
    exact h2 rfl H2 (e.trans e2) _ fun v H3 e3 hv => q v H3 (e2.trans e3) hv
theorem ed_notV {k : Bool} (h1 : Ed K ta σ H (.bl k)) : Ed K (tNotV ta) σ H (.bl (!k)) := fun H1 e Q q => h1 H1 e _ fun v H2 e2 hv => by
  cases hv
  exact ⟨k, rfl, q _ H2 e2 (.bl _)⟩
theorem ed_if {k : Bool} (h : EdT t σ H k) (h1 : k = true → Ed K ta σ H d) (h2 : k = false → Ed K tb σ H d) : Ed K (tIf t ta tb) σ H d := fun H1 e Q q => h H1 e _ fun H2 e2 => by
  cases k with
  | true =>
    rw [if_pos rfl]
    exact h1 rfl H2 (e.trans e2) _ fun v H3 e3 hv => q v H3 (e2.trans e3) hv
  | false =>
    rw [if_neg Bool.false_ne_true]
    exact h2 rfl H2 (e.trans e2) _ fun v H3 e3 hv => q v H3 (e2.trans e3) hv
theorem el_if {k : Bool} (h : EdT t σ H k) (h1 : k = true → EdN K ta σ H ds) (h2 : k = false → EdN K tb σ H ds) : EdN K (tIf t ta tb) σ H ds := fun H1 e Q q => h H1 e _ fun H2 e2 => by
  cases k with
  | true =>
    rw [if_pos rfl]
    exact h1 rfl H2 (e.trans e2) _ fun v H3 e3 hn hv => q v H3 (e2.trans e3) (e2.free hn) hv
  | false =>
    rw [if_neg Bool.false_ne_true]
    exact h2 rfl H2 (e.trans e2) _ fun v H3 e3 hn hv => q v H3 (e2.trans e3) (e2.free hn) hv
/-! arguments, displays -/
theorem ea_nil : EdA K tNil σ H [] := fun H1 _ _ q => q [] H1 (Ext.refl H1) .nil
theorem ea_cons {tr : TA} (h : Ed K ta σ H d) (hr : EdA K tr σ H ds) : EdA K (tCons ta tr) σ H (d :: ds) := fun H1 e _ q =>
  h H1 e _ fun v H2 e2 hv => hr H2 (e.trans e2) _ fun vs H3 e3 hs => q (v :: vs) H3 (e2.trans e3) (.cons (hv.to e3.kp) hs)
theorem ed_tup {tr : TA} (h : EdA K tr σ H ds) (hl : ds.length ≤ 1000000) : Ed K (tTup tr) σ H (.tup ds) := fun H1 e _ q =>
  h H1 e _ fun vs H2 e2 hs => ⟨sizeSmall (by rw [hs.length]; exact hl), fun p hp => by
    have e3 : Ext H2 (upd H2 p (.tup vs)) := Ext.new hp
    exact q _ _ (e2.trans e3) (.tup (.inl (.inl upd_same)) (hs.to e3.kp))⟩
theorem en_lst {tr : TA} (h : EdA K tr σ H ds) (hl : ds.length ≤ 1000000) : EdN K (tLst tr) σ H ds := fun H1 e _ q =>
  h H1 e _ fun vs H2 e2 hs => ⟨sizeSmall (by rw [hs.length]; exact hl), fun p hp => by
    have e3 : Ext H2 (upd H2 p (.lst vs)) := Ext.new hp
    exact q _ _ (e2.trans e3) (e2.free hp) ⟨vs, upd_same, hs.to e3.kp⟩⟩
/-- two lists joined -/
theorem en_cat (ha : EdL K ta σ H ds) (hb : EdL K tb σ H es) (hz : ds.length + es.length ≤ 1000000)
    (wa : ∀ H1, Ext H H1 → ∀ Q : VK, (∀ l H2, Ext H1 H2 → LsM K H2 l ds → Q (.ref l) H2) → ta σ H1 Q) (wb : ∀ H1, Ext H H1 → ∀ Q : VK, (∀ l H2, Ext H1 H2 → LsM K H2 l es → Q (.ref l) H2) → tb σ H1 Q) : EdN K (tOp (rAddX K) ta tb) σ H (ds ++ es) := fun H1 e _ q =>
  wa H1 e _ fun l H2 e2 h2 => wb H2 (e.trans e2) _ fun m H3 e3 h3 => by
    obtain ⟨xs, a1, a2⟩ := h2.to e3
    obtain ⟨ys, b1, b2⟩ := h3
    refine .inr (.inr ⟨l, m, xs, ys, rfl, rfl, a1, b1, sizeSmall (by rw [a2.length, b2.length]; exact hz), fun p hp => ?_⟩)
    have e4 : Ext H3 (upd H3 p (.lst (xs ++ ys))) := Ext.new hp
    exact q p _ (e2.trans (e3.trans e4)) ((e2.trans e3).free hp) ⟨_, upd_same, (a2.append b2).to e4.kp⟩
theorem em_var {i : Nat} {l : Addr} (h : σ[i]? = some (some (.ref l))) (hd : LsM K H l ds) : ∀ H1, Ext H H1 → ∀ Q : VK, (∀ l H2, Ext H1 H2 → LsM K H2 l ds → Q (.ref l) H2) → tVar i σ H1 Q := fun H1 e Q q => ⟨_, h, q l H1 (Ext.refl H1) (hd.to e)⟩
theorem EdN.m (h : EdN K te σ H ds) : ∀ H1, Ext H H1 → ∀ Q : VK, (∀ l H2, Ext H1 H2 → LsM K H2 l ds → Q (.ref l) H2) → te σ H1 Q := fun H1 e Q q => h H1 e Q fun l H2 e2 _ hl => q l H2 e2 hl
/-! parts -/
def cutD {α : Type} (xs : List α) (lo hi : Option Int) : List α := (xs.drop (HT.sIx xs.length 0 lo)).take (HT.sIx xs.length xs.length hi - HT.sIx xs.length 0 lo)
theorem ImAll.cut {xs : List V} {lo hi : Option Int} (h : ImAll K H xs ds) : ImAll K H (cutV xs lo hi) (cutD ds lo hi) := by
  unfold cutV cutD
  rw [h.length]
  exact (h.drop _).take _
theorem eo_none : EdO tNoPart σ H none := fun H1 _ _ q => q H1 (Ext.refl H1)
theorem eo_some {i : Int} (h : Ed K te σ H (.int i)) : EdO (tPart te) σ H (some i) := fun H1 e _ q => h H1 e _ fun v H2 e2 hv => by
  cases hv
  exact ⟨i, rfl, q H2 e2⟩
theorem ed_sl {tl th : TO} {lo hi : Option Int} (h : Ed K te σ H (.tup ds)) (h1 : EdO tl σ H lo) (h2 : EdO th σ H hi) : Ed K (tSl (rSlX K) te tl th) σ H (.tup (cutD ds lo hi)) := fun H1 e Q q =>
  h H1 e _ fun v H2 e2 hv => h1 H2 (e.trans e2) _ fun H3 e3 => h2 H3 (e.trans (e2.trans e3)) _ fun H4 e4 => by
    have hv4 := hv.to (e3.trans e4).kp
    cases hv4 with
    | tup s1 s2 =>
      rename_i a xs
      refine .inl ⟨a, xs, rfl, s1, fun hw => ?_, fun hw p hp => ?_⟩
      · have e5 : cutD ds lo hi = ds := by
          unfold cutD
          rw [← s2.length, hw.1, hw.2, List.drop_zero, Nat.sub_zero, s2.length, List.take_length]
        rw [e5] at q
        exact q _ H4 (e2.trans (e3.trans e4)) (.tup s1 s2)
      · have e5 : Ext H4 (upd H4 p (.tup (cutV xs lo hi))) := Ext.new hp
        exact q _ _ (e2.trans (e3.trans (e4.trans e5))) (.tup (.inl (.inl upd_same)) (s2.cut.to e5.kp))
/-! built-ins -/
theorem ed_lenT (h : Ed K ta σ H (.tup ds)) : Ed K (tCB (rLenX K) (tCons ta tNil)) σ H (.int ds.length) := fun H1 e Q q =>
  h H1 e _ fun v H2 e2 hv => by
    cases hv with
    | tup s1 s2 => exact ⟨_, _, rfl, .inr ⟨_, s1, s2.length.symm⟩, q _ H2 e2 (.int _)⟩
theorem ed_lenS {x : Str} (h : Ed K ta σ H (.str x)) (hz : x.length ≤ 1000000) : Ed K (tCB (rLenX K) (tCons ta tNil)) σ H (.int x.length) := fun H1 e Q q =>
  h H1 e _ fun v H2 e2 hv => by
    cases hv
    exact ⟨_, _, rfl, ⟨sizeSmall hz, rfl⟩, q _ H2 e2 (.int _)⟩
theorem ed_lenL (h : EdL K ta σ H ds) : Ed K (tCB (rLenX K) (tCons ta tNil)) σ H (.int ds.length) := fun H1 e Q q =>
  h H1 e _ fun l H2 e2 hv => by
    obtain ⟨xs, s1, s2⟩ := hv
    exact ⟨_, _, rfl, .inl ⟨_, s1, s2.length.symm⟩, q _ H2 e2 (.int _)⟩
theorem ed_tupL (h : EdL K ta σ H ds) : Ed K (tCB (rTupX K) (tCons ta tNil)) σ H (.tup ds) := fun H1 e Q q =>
  h H1 e _ fun l H2 e2 hv => by
    obtain ⟨xs, s1, s2⟩ := hv
    refine ⟨_, _, rfl, .inl ⟨s1, fun p hp => ?_⟩⟩
    have e3 : Ext H2 (upd H2 p (.tup xs)) := Ext.new hp
    exact q _ _ (e2.trans e3) (.tup (.inl (.inl upd_same)) (s2.to e3.kp))
theorem en_lstL (h : EdL K ta σ H ds) : EdN K (tCB (rLstX K) (tCons ta tNil)) σ H ds := fun H1 e Q q =>
  h H1 e _ fun l H2 e2 hv => by
    obtain ⟨xs, s1, s2⟩ := hv
    refine ⟨_, _, rfl, .inl s1, fun p hp => ?_⟩
    have e3 : Ext H2 (upd H2 p (.lst xs)) := Ext.new hp
    exact q _ _ (e2.trans e3) (e2.free hp) ⟨xs, upd_same, s2.to e3.kp⟩
theorem ed_intI {i : Int} (h : Ed K ta σ H (.int i)) : Ed K (tCB rIntX (tCons ta tNil)) σ H (.int i) := fun H1 e Q q =>
  h H1 e _ fun v H2 e2 hv => by
    cases hv
    exact .inl ⟨i, rfl, q _ H2 e2 (.int i)⟩
theorem ed_intB {k : Bool} (h : Ed K ta σ H (.bl k)) : Ed K (tCB rIntX (tCons ta tNil)) σ H (.int (if k then 1 else 0)) := fun H1 e Q q =>
  h H1 e _ fun v H2 e2 hv => by
    cases hv
    exact .inr ⟨k, rfl, q _ H2 e2 (.int _)⟩
theorem ed_isi {T : String} {k : Bool} (h : Ed K ta σ H a) (hk : isiB a T = some k) : Ed K (tCB (rIsiX K) (tCons ta (tCons (tC (.ty T)) tNil))) σ H (.bl k) := fun H1 e Q q =>
  h H1 e _ fun v H2 e2 hv => ⟨v, a, T, k, rfl, hv, hk, q _ H2 e2 (.bl k)⟩
/-! pure defs: the answers by a relation of data -/
def SpF (K : PySem.W.Frag) (TL : List Addr) (R : List Dt → Dt → Prop) : Sp := fun vs H Q _ => ∃ ds d, ImAll K H vs ds ∧ Tabs TL H ∧ R ds d ∧ ∀ v H', Ext H H' → Im K H' v d → Q v H'
/-- .. that hand back a new list -/
def SpG (K : PySem.W.Frag) (TL : List Addr) (R : List Dt → List Dt → Prop) : Sp := fun vs H Q _ => ∃ ds es, ImAll K H vs ds ∧ Tabs TL H ∧ R ds es ∧ ∀ l H', Ext H H' → H l = none → LsM K H' l es → Q (.ref l) H'
theorem ed_call {TL : List Addr} {R : List Dt → Dt → Prop} {E : XK} {tr : TA} (h : EdA K tr σ H ds) (ht : Tabs TL H0) (hk : Kp H0 H) (hr : R ds d) : Ed K (tCall (SpF K TL R) [] E tr) σ H d := fun H1 e Q q =>
  h H1 e _ fun vs H2 e2 hs => ⟨ds, d, by rw [List.append_nil]; exact hs, ht.to ((hk.trans e.kp).trans e2.kp), hr, fun v H3 e3 hv => q v H3 (e2.trans e3) hv⟩
theorem en_call {TL : List Addr} {R : List Dt → List Dt → Prop} {E : XK} {tr : TA} (h : EdA K tr σ H ds) (ht : Tabs TL H0) (hk : Kp H0 H) (hr : R ds es) : EdN K (tCall (SpG K TL R) [] E tr) σ H es := fun H1 e Q q =>
  h H1 e _ fun vs H2 e2 hs => ⟨ds, es, by rw [List.append_nil]; exact hs, ht.to ((hk.trans e.kp).trans e2.kp), hr, fun v H3 e3 hn hv => q v H3 (e2.trans e3) (e2.free hn) hv⟩
/-! ### statements -/
variable {D : Ends} {tz : TS}
theorem st_set {i : Nat} (h : Ed K te σ H d) (k : ∀ v H1, Ext H H1 → Im K H1 v d → D.nx (σ.set i (some v)) H1) : tAsg te (gName i) D σ H := h H (Ext.refl H) _ k
theorem st_setN {i : Nat} (h : EdN K te σ H ds) (k : ∀ l H1, Ext H H1 → H l = none → LsM K H1 l ds → D.nx (σ.set i (some (.ref l))) H1) : tAsg te (gName i) D σ H := h H (Ext.refl H) _ k
theorem st_ret (h : Ed K te σ H d) (k : ∀ v H1, Ext H H1 → Im K H1 v d → D.rt v H1) : tRet te D σ H := h H (Ext.refl H) _ k
theorem st_retN (h : EdN K te σ H ds) (k : ∀ l H1, Ext H H1 → H l = none → LsM K H1 l ds → D.rt (.ref l) H1) : tRet te D σ H := h H (Ext.refl H) _ k
theorem st_if {k : Bool} {tu tw : TS} (h : EdT t σ H k) (h1 : k = true → ∀ H1, Ext H H1 → tu D σ H1) (h2 : k = false → ∀ H1, Ext H H1 → tw D σ H1) : tIfS t tu tw D σ H := h H (Ext.refl H) _ fun H1 e => by
  cases k with
  | true =>
    rw [if_pos rfl]
    exact h1 rfl H1 e
  | false =>
    rw [if_neg Bool.false_ne_true]
    exact h2 rfl H1 e
theorem st_aug {i : Nat} {f : Int → Int → Int} {m n : Int} (hx : σ[i]? = some (some (.int m))) (h : Ed K te σ H (.int n)) (k : ∀ H1, Ext H H1 → D.nx (σ.set i (some (.int (f m n)))) H1) : tAug i te (ipI f) D σ H := ⟨_, hx, h H (Ext.refl H) _ fun v H1 e hv => by
  cases hv
  exact ⟨m, n, rfl, rfl, k H1 e⟩⟩
theorem q_set {i : Nat} (h : Ed K te σ H d) (k : ∀ v H1, Ext H H1 → Im K H1 v d → tz D (σ.set i (some v)) H1) : tSeq (tAsg te (gName i)) tz D σ H := h H (Ext.refl H) _ k
theorem q_setN {i : Nat} (h : EdN K te σ H ds) (k : ∀ l H1, Ext H H1 → H l = none → LsM K H1 l ds → tz D (σ.set i (some (.ref l))) H1) : tSeq (tAsg te (gName i)) tz D σ H := h H (Ext.refl H) _ k
theorem q_if {k : Bool} {tu tw : TS} (h : EdT t σ H k) (h1 : k = true → ∀ H1, Ext H H1 → tu { D with nx := tz D } σ H1) (h2 : k = false → ∀ H1, Ext H H1 → tw { D with nx := tz D } σ H1) : tSeq (tIfS t tu tw) tz D σ H := st_if (D := { D with nx := tz D }) h h1 h2
theorem q_aug {i : Nat} {f : Int → Int → Int} {m n : Int} (hx : σ[i]? = some (some (.int m))) (h : Ed K te σ H (.int n)) (k : ∀ H1, Ext H H1 → tz D (σ.set i (some (.int (f m n)))) H1) : tSeq (tAug i te (ipI f)) tz D σ H := st_aug (D := { D with nx := tz D }) hx h k
end
end K29
set_option Elab.async false
set_option linter.all false
set_option maxRecDepth 100000
set_option maxHeartbeats 0
namespace K29
open PySem PySem.Spec PyProof.Rows L2
def top (i : Nat) : Stmt := PySem.Challenge.pw_onelife_k29_whole_harms.main.body.getD i (.Pass ⟨0, 0, 0, 0⟩)
abbrev s_is_number : Stmt := top 13
abbrev s_need_number : Stmt := top 14
abbrev s_is_word : Stmt := top 15
abbrev s_is_option : Stmt := top 16
abbrev s_need_machine : Stmt := top 17
abbrev s_way_of : Stmt := top 18
abbrev s_state_behind : Stmt := top 19
abbrev s_word_of : Stmt := top 20
abbrev s_need_marks : Stmt := top 24
abbrev s_is_row : Stmt := top 25
abbrev s_need_table : Stmt := top 26
abbrev s_need_house : Stmt := top 27
abbrev s_row_of : Stmt := top 28
abbrev s_told_by : Stmt := top 29
abbrev s_begins : Stmt := top 30
abbrev s_along : Stmt := top 31
abbrev s_w_init : Stmt := inClass (top 36) 0
abbrev s_w_twin : Stmt := inClass (top 36) 1
abbrev s_w_fits : Stmt := inClass (top 36) 2
abbrev s_w_say : Stmt := inClass (top 36) 3
abbrev s_w_seal : Stmt := inClass (top 36) 4
abbrev s_w_come_to : Stmt := inClass (top 36) 5
abbrev s_w_boot : Stmt := inClass (top 36) 6
abbrev s_w_ask : Stmt := inClass (top 36) 7
abbrev s_w_turn : Stmt := inClass (top 36) 8
abbrev s_w_seal_late : Stmt := inClass (top 36) 9
abbrev s_w_cut : Stmt := inClass (top 36) 10
abbrev s_w_do : Stmt := inClass (top 36) 11
abbrev s_w_is_dead : Stmt := inClass (top 36) 12
abbrev s_w_pair : Stmt := inClass (top 36) 13
abbrev s_is_same_note : Stmt := top 37
abbrev s_wrong_step : Stmt := top 38
abbrev s_need_manner : Stmt := top 42
abbrev s_harm_in : Stmt := top 43
abbrev s_steps_from : Stmt := top 44
abbrev s_order_of : Stmt := top 45
abbrev s_picture_of : Stmt := top 46
abbrev s_least_harm : Stmt := top 47
abbrev s_gone_on : Stmt := top 48
abbrev s_harm_of : Stmt := top 49
abbrev s_shows_harm : Stmt := top 50
abbrev s_k_init : Stmt := inClass (top 53) 0
abbrev s_k_bring_near : Stmt := inClass (top 53) 1
abbrev s_k_marks_to_word : Stmt := inClass (top 53) 2
abbrev s_k_choices : Stmt := inClass (top 53) 3
abbrev s_k_next_mark : Stmt := inClass (top 53) 4
abbrev s_k_gone_on : Stmt := inClass (top 53) 5
abbrev s_k_together : Stmt := inClass (top 53) 6
abbrev s_k_chosen : Stmt := inClass (top 53) 7
abbrev s_k_marks_to_part : Stmt := inClass (top 53) 8
abbrev s_paper_of : Stmt := top 54
abbrev s_is_safe : Stmt := top 55
abbrev s_law_taken : Stmt := top 57
abbrev s_law_pick : Stmt := top 58
abbrev s_law_machine : Stmt := top 59
abbrev s_law_row : Stmt := top 60
abbrev s_law_every : Stmt := top 61
abbrev s_law_table : Stmt := top 62
abbrev s_law_world : Stmt := top 63
abbrev s_law_bad_world : Stmt := top 64
abbrev s_law_spell : Stmt := top 65
abbrev s_law_along : Stmt := top 66
abbrev s_law_two : Stmt := top 67
abbrev s_law_bad_fits : Stmt := top 68
abbrev s_law_bad_harm : Stmt := top 69
abbrev s_law_state_behind : Stmt := top 70
abbrev s_law_bad_can : Stmt := top 71
abbrev s_law_bad_say : Stmt := top 72
abbrev s_law_bad_come : Stmt := top 73
abbrev s_law_bad_step : Stmt := top 74
abbrev s_law_least : Stmt := top 75
abbrev s_law : Stmt := top 76
def d_is_number : He.DefD := ⟨("is_number", none), "is_number", "is_number", defArgs s_is_number, defBody s_is_number, defScope s_is_number, [], []⟩
def d_need_number : He.DefD := ⟨("need_number", none), "need_number", "need_number", defArgs s_need_number, defBody s_need_number, defScope s_need_number, [], []⟩
def d_is_word : He.DefD := ⟨("is_word", none), "is_word", "is_word", defArgs s_is_word, defBody s_is_word, defScope s_is_word, [], []⟩
def d_is_option : He.DefD := ⟨("is_option", none), "is_option", "is_option", defArgs s_is_option, defBody s_is_option, defScope s_is_option, [], []⟩
def d_need_machine : He.DefD := ⟨("need_machine", none), "need_machine", "need_machine", defArgs s_need_machine, defBody s_need_machine, defScope s_need_machine, [], []⟩
def d_way_of : He.DefD := ⟨("way_of", none), "way_of", "way_of", defArgs s_way_of, defBody s_way_of, defScope s_way_of, [], []⟩
def d_state_behind : He.DefD := ⟨("state_behind", none), "state_behind", "state_behind", defArgs s_state_behind, defBody s_state_behind, defScope s_state_behind, [], []⟩
def d_word_of : He.DefD := ⟨("word_of", none), "word_of", "word_of", defArgs s_word_of, defBody s_word_of, defScope s_word_of, [], []⟩
def d_need_marks : He.DefD := ⟨("need_marks", none), "need_marks", "need_marks", defArgs s_need_marks, defBody s_need_marks, defScope s_need_marks, [], []⟩
def d_is_row : He.DefD := ⟨("is_row", none), "is_row", "is_row", defArgs s_is_row, defBody s_is_row, defScope s_is_row, [.int 8], []⟩
def d_need_table : He.DefD := ⟨("need_table", none), "need_table", "need_table", defArgs s_need_table, defBody s_need_table, defScope s_need_table, [], []⟩
def d_need_house : He.DefD := ⟨("need_house", none), "need_house", "need_house", defArgs s_need_house, defBody s_need_house, defScope s_need_house, [], []⟩
def d_row_of : He.DefD := ⟨("row_of", none), "row_of", "row_of", defArgs s_row_of, defBody s_row_of, defScope s_row_of, [], []⟩
def d_told_by : He.DefD := ⟨("told_by", none), "told_by", "told_by", defArgs s_told_by, defBody s_told_by, defScope s_told_by, [], []⟩
def d_begins : He.DefD := ⟨("begins", none), "begins", "begins", defArgs s_begins, defBody s_begins, defScope s_begins, [], []⟩
def d_along : He.DefD := ⟨("along", none), "along", "along", defArgs s_along, defBody s_along, defScope s_along, [], []⟩
def d_w_init : He.DefD := ⟨("World", some "__init__"), "__init__", "World.__init__", defArgs s_w_init, defBody s_w_init, defScope s_w_init, [.str "sealed"], []⟩
def d_w_twin : He.DefD := ⟨("World", some "twin"), "twin", "World.twin", defArgs s_w_twin, defBody s_w_twin, defScope s_w_twin, [], []⟩
def d_w_fits : He.DefD := ⟨("World", some "fits"), "fits", "World.fits", defArgs s_w_fits, defBody s_w_fits, defScope s_w_fits, [], []⟩
def d_w_say : He.DefD := ⟨("World", some "say"), "say", "World.say", defArgs s_w_say, defBody s_w_say, defScope s_w_say, [], []⟩
def d_w_seal : He.DefD := ⟨("World", some "seal"), "seal", "World.seal", defArgs s_w_seal, defBody s_w_seal, defScope s_w_seal, [], []⟩
def d_w_come_to : He.DefD := ⟨("World", some "come_to"), "come_to", "World.come_to", defArgs s_w_come_to, defBody s_w_come_to, defScope s_w_come_to, [], []⟩
def d_w_boot : He.DefD := ⟨("World", some "boot"), "boot", "World.boot", defArgs s_w_boot, defBody s_w_boot, defScope s_w_boot, [], []⟩
def d_w_ask : He.DefD := ⟨("World", some "ask"), "ask", "World.ask", defArgs s_w_ask, defBody s_w_ask, defScope s_w_ask, [], []⟩
def d_w_turn : He.DefD := ⟨("World", some "turn"), "turn", "World.turn", defArgs s_w_turn, defBody s_w_turn, defScope s_w_turn, [], []⟩
def d_w_seal_late : He.DefD := ⟨("World", some "seal_late"), "seal_late", "World.seal_late", defArgs s_w_seal_late, defBody s_w_seal_late, defScope s_w_seal_late, [], []⟩
def d_w_cut : He.DefD := ⟨("World", some "cut"), "cut", "World.cut", defArgs s_w_cut, defBody s_w_cut, defScope s_w_cut, [], []⟩
def d_w_do : He.DefD := ⟨("World", some "do"), "do", "World.do", defArgs s_w_do, defBody s_w_do, defScope s_w_do, [], []⟩
def d_w_is_dead : He.DefD := ⟨("World", some "is_dead"), "is_dead", "World.is_dead", defArgs s_w_is_dead, defBody s_w_is_dead, defScope s_w_is_dead, [], []⟩
def d_w_pair : He.DefD := ⟨("World", some "pair"), "pair", "World.pair", defArgs s_w_pair, defBody s_w_pair, defScope s_w_pair, [], []⟩
def d_is_same_note : He.DefD := ⟨("is_same_note", none), "is_same_note", "is_same_note", defArgs s_is_same_note, defBody s_is_same_note, defScope s_is_same_note, [], []⟩
def d_wrong_step : He.DefD := ⟨("wrong_step", none), "wrong_step", "wrong_step", defArgs s_wrong_step, defBody s_wrong_step, defScope s_wrong_step, [], []⟩
def d_need_manner : He.DefD := ⟨("need_manner", none), "need_manner", "need_manner", defArgs s_need_manner, defBody s_need_manner, defScope s_need_manner, [], []⟩
def d_harm_in : He.DefD := ⟨("harm_in", none), "harm_in", "harm_in", defArgs s_harm_in, defBody s_harm_in, defScope s_harm_in, [], []⟩
def d_steps_from : He.DefD := ⟨("steps_from", none), "steps_from", "steps_from", defArgs s_steps_from, defBody s_steps_from, defScope s_steps_from, [], []⟩
def d_order_of : He.DefD := ⟨("order_of", none), "order_of", "order_of", defArgs s_order_of, defBody s_order_of, defScope s_order_of, [], []⟩
def d_picture_of : He.DefD := ⟨("picture_of", none), "picture_of", "picture_of", defArgs s_picture_of, defBody s_picture_of, defScope s_picture_of, [], []⟩
def d_least_harm : He.DefD := ⟨("least_harm", none), "least_harm", "least_harm", defArgs s_least_harm, defBody s_least_harm, defScope s_least_harm, [], []⟩
def d_gone_on : He.DefD := ⟨("gone_on", none), "gone_on", "gone_on", defArgs s_gone_on, defBody s_gone_on, defScope s_gone_on, [], []⟩
def d_harm_of : He.DefD := ⟨("harm_of", none), "harm_of", "harm_of", defArgs s_harm_of, defBody s_harm_of, defScope s_harm_of, [], []⟩
def d_shows_harm : He.DefD := ⟨("shows_harm", none), "shows_harm", "shows_harm", defArgs s_shows_harm, defBody s_shows_harm, defScope s_shows_harm, [], []⟩
def d_k_init : He.DefD := ⟨("Walk", some "__init__"), "__init__", "Walk.__init__", defArgs s_k_init, defBody s_k_init, defScope s_k_init, [], []⟩
def d_k_bring_near : He.DefD := ⟨("Walk", some "bring_near"), "bring_near", "Walk.bring_near", defArgs s_k_bring_near, defBody s_k_bring_near, defScope s_k_bring_near, [], []⟩
def d_k_marks_to_word : He.DefD := ⟨("Walk", some "marks_to_word"), "marks_to_word", "Walk.marks_to_word", defArgs s_k_marks_to_word, defBody s_k_marks_to_word, defScope s_k_marks_to_word, [], []⟩
def d_k_choices : He.DefD := ⟨("Walk", some "choices"), "choices", "Walk.choices", defArgs s_k_choices, defBody s_k_choices, defScope s_k_choices, [], []⟩
def d_k_next_mark : He.DefD := ⟨("Walk", some "next_mark"), "next_mark", "Walk.next_mark", defArgs s_k_next_mark, defBody s_k_next_mark, defScope s_k_next_mark, [], []⟩
def d_k_gone_on : He.DefD := ⟨("Walk", some "gone_on"), "gone_on", "Walk.gone_on", defArgs s_k_gone_on, defBody s_k_gone_on, defScope s_k_gone_on, [], []⟩
def d_k_together : He.DefD := ⟨("Walk", some "together"), "together", "Walk.together", defArgs s_k_together, defBody s_k_together, defScope s_k_together, [], []⟩
def d_k_chosen : He.DefD := ⟨("Walk", some "chosen"), "chosen", "Walk.chosen", defArgs s_k_chosen, defBody s_k_chosen, defScope s_k_chosen, [], []⟩
def d_k_marks_to_part : He.DefD := ⟨("Walk", some "marks_to_part"), "marks_to_part", "Walk.marks_to_part", defArgs s_k_marks_to_part, defBody s_k_marks_to_part, defScope s_k_marks_to_part, [], []⟩
def d_paper_of : He.DefD := ⟨("paper_of", none), "paper_of", "paper_of", defArgs s_paper_of, defBody s_paper_of, defScope s_paper_of, [], []⟩
def d_is_safe : He.DefD := ⟨("is_safe", none), "is_safe", "is_safe", defArgs s_is_safe, defBody s_is_safe, defScope s_is_safe, [], []⟩
def d_law_taken : He.DefD := ⟨("_law_taken", none), "_law_taken", "_law_taken", defArgs s_law_taken, defBody s_law_taken, defScope s_law_taken, [], []⟩
def d_law_pick : He.DefD := ⟨("_law_pick", none), "_law_pick", "_law_pick", defArgs s_law_pick, defBody s_law_pick, defScope s_law_pick, [], []⟩
def d_law_machine : He.DefD := ⟨("_law_machine", none), "_law_machine", "_law_machine", defArgs s_law_machine, defBody s_law_machine, defScope s_law_machine, [], []⟩
def d_law_row : He.DefD := ⟨("_law_row", none), "_law_row", "_law_row", defArgs s_law_row, defBody s_law_row, defScope s_law_row, [], []⟩
def d_law_every : He.DefD := ⟨("_law_every", none), "_law_every", "_law_every", defArgs s_law_every, defBody s_law_every, defScope s_law_every, [], []⟩
def d_law_table : He.DefD := ⟨("_law_table", none), "_law_table", "_law_table", defArgs s_law_table, defBody s_law_table, defScope s_law_table, [], []⟩
def d_law_world : He.DefD := ⟨("_law_world", none), "_law_world", "_law_world", defArgs s_law_world, defBody s_law_world, defScope s_law_world, [], []⟩
def d_law_bad_world : He.DefD := ⟨("_law_bad_world", none), "_law_bad_world", "_law_bad_world", defArgs s_law_bad_world, defBody s_law_bad_world, defScope s_law_bad_world, [], []⟩
def d_law_spell : He.DefD := ⟨("_law_spell", none), "_law_spell", "_law_spell", defArgs s_law_spell, defBody s_law_spell, defScope s_law_spell, [], []⟩
def d_law_along : He.DefD := ⟨("_law_along", none), "_law_along", "_law_along", defArgs s_law_along, defBody s_law_along, defScope s_law_along, [], []⟩
def d_law_two : He.DefD := ⟨("_law_two", none), "_law_two", "_law_two", defArgs s_law_two, defBody s_law_two, defScope s_law_two, [], []⟩
def d_law_bad_fits : He.DefD := ⟨("_law_bad_fits", none), "_law_bad_fits", "_law_bad_fits", defArgs s_law_bad_fits, defBody s_law_bad_fits, defScope s_law_bad_fits, [], []⟩
def d_law_bad_harm : He.DefD := ⟨("_law_bad_harm", none), "_law_bad_harm", "_law_bad_harm", defArgs s_law_bad_harm, defBody s_law_bad_harm, defScope s_law_bad_harm, [], []⟩
def d_law_state_behind : He.DefD := ⟨("_law_state_behind", none), "_law_state_behind", "_law_state_behind", defArgs s_law_state_behind, defBody s_law_state_behind, defScope s_law_state_behind, [], []⟩
def d_law_bad_can : He.DefD := ⟨("_law_bad_can", none), "_law_bad_can", "_law_bad_can", defArgs s_law_bad_can, defBody s_law_bad_can, defScope s_law_bad_can, [], []⟩
def d_law_bad_say : He.DefD := ⟨("_law_bad_say", none), "_law_bad_say", "_law_bad_say", defArgs s_law_bad_say, defBody s_law_bad_say, defScope s_law_bad_say, [], []⟩
def d_law_bad_come : He.DefD := ⟨("_law_bad_come", none), "_law_bad_come", "_law_bad_come", defArgs s_law_bad_come, defBody s_law_bad_come, defScope s_law_bad_come, [], []⟩
def d_law_bad_step : He.DefD := ⟨("_law_bad_step", none), "_law_bad_step", "_law_bad_step", defArgs s_law_bad_step, defBody s_law_bad_step, defScope s_law_bad_step, [], []⟩
def d_law_least : He.DefD := ⟨("_law_least", none), "_law_least", "_law_least", defArgs s_law_least, defBody s_law_least, defScope s_law_least, [], []⟩
def d_law : He.DefD := ⟨("law", none), "law", "law", defArgs s_law, defBody s_law, defScope s_law, [], []⟩
def fn : List He.DefD := [d_is_number, d_need_number, d_is_word, d_is_option, d_need_machine, d_way_of, d_state_behind, d_word_of, d_need_marks, d_is_row, d_need_table, d_need_house, d_row_of, d_told_by, d_begins, d_along, d_w_init, d_w_twin, d_w_fits, d_w_say, d_w_seal, d_w_come_to, d_w_boot, d_w_ask, d_w_turn, d_w_seal_late, d_w_cut, d_w_do, d_w_is_dead, d_w_pair, d_is_same_note, d_wrong_step, d_need_manner, d_harm_in, d_steps_from, d_order_of, d_picture_of, d_least_harm, d_gone_on, d_harm_of, d_shows_harm, d_k_init, d_k_bring_near, d_k_marks_to_word, d_k_choices, d_k_next_mark, d_k_gone_on, d_k_together, d_k_chosen, d_k_marks_to_part, d_paper_of, d_is_safe, d_law_taken, d_law_pick, d_law_machine, d_law_row, d_law_every, d_law_table, d_law_world, d_law_bad_world, d_law_spell, d_law_along, d_law_two, d_law_bad_fits, d_law_bad_harm, d_law_state_behind, d_law_bad_can, d_law_bad_say, d_law_bad_come, d_law_bad_step, d_law_least, d_law]
def fa : List He.Fa := [.glo "is_number", .glo "need_number", .glo "is_word", .glo "is_option", .glo "need_machine", .glo "way_of", .glo "state_behind", .glo "word_of", .glo "need_marks", .glo "is_row", .glo "need_table", .glo "need_house", .glo "row_of", .glo "told_by", .glo "begins", .glo "along", .glo "is_same_note", .glo "wrong_step", .glo "need_manner", .glo "harm_in", .glo "steps_from", .glo "order_of", .glo "picture_of", .glo "least_harm", .glo "gone_on", .glo "harm_of", .glo "shows_harm", .glo "paper_of", .glo "is_safe", .glo "_law_taken", .glo "_law_pick", .glo "_law_machine", .glo "_law_row", .glo "_law_every", .glo "_law_table", .glo "_law_world", .glo "_law_bad_world", .glo "_law_spell", .glo "_law_along", .glo "_law_two"]
def fa40 : List He.Fa := [.glo "_law_bad_fits", .glo "_law_bad_harm", .glo "_law_state_behind", .glo "_law_bad_can", .glo "_law_bad_say", .glo "_law_bad_come", .glo "_law_bad_step", .glo "_law_least", .glo "law", .free "isinstance", .free "len", .free "all", .free "any", .free "enumerate", .free "range", .free "tuple", .free "list", .free "sorted", .free "dict", .free "int", .free "bool", .free "str", .free "min", .glo "World", .cls "World", .mkr "World", .meth "World" "twin", .meth "World" "fits", .meth "World" "say", .meth "World" "seal", .meth "World" "come_to", .meth "World" "boot", .meth "World" "ask", .meth "World" "turn", .meth "World" "seal_late", .meth "World" "cut", .meth "World" "do", .meth "World" "is_dead", .meth "World" "pair", .glo "Walk"]
def fa80 : List He.Fa := [.cls "Walk", .mkr "Walk", .meth "Walk" "bring_near", .meth "Walk" "marks_to_word", .meth "Walk" "choices", .meth "Walk" "next_mark", .meth "Walk" "gone_on", .meth "Walk" "together", .meth "Walk" "chosen", .meth "Walk" "marks_to_part", .noat "World" "machine", .noat "World" "table", .noat "World" "manner", .noat "World" "reading", .noat "World" "notes", .noat "World" "standing", .noat "World" "said", .noat "World" "speakers", .noat "Walk" "machine", .noat "Walk" "table", .noat "Walk" "near", .int "MOST_STATES" 40, .int "MOST_OPTIONS" 6, .int "MOST_LETTERS" 8, .str "LETTERS" "abcdefghijklmnopqrstuvwxyz", .int "MOST_MARKS" 4, .int "MOST_ROW" 8, .glo "BIRTH", .glo "OFF", .glo "MUTE", .glo "MANNERS", .int "MOST_HARM" 9, .glo "START"]
def fas : List He.Fa := fa ++ (fa40 ++ (fa80))
/-- the i-th item of the tuple at p, if it is an object -/
def itemAt (p : PySem.W.Frag → Addr) (i : Nat) (K : PySem.W.Frag) : Addr := match K.lookup (p K) with
  | some ⟨_, _, .seq its _, _⟩ => (match its.toList[i]? with
    | some (.ref a) => a
    | _ => 0)
  | _ => 0
def tupAtB (K : PySem.W.Frag) (a : Addr) (vs : List He.Dv) : Bool := match K.lookup a with
  | some ⟨.type c, _, .seq its _, _⟩ => decide (c = "tuple") && (decide (its.size ≤ sizeLine) && He.relAll (vs.map (He.Dv.v K)) its.toList)
  | _ => false
abbrev gaOf (x : Str) : PySem.W.Frag → Addr := fun K => He.ga K x
def consts : List ((PySem.W.Frag → Addr) × List He.Dv) := [
  (gaOf "BIRTH", [.int 0, .non, .adr (itemAt (gaOf "BIRTH") 2), .int 0]), (itemAt (gaOf "BIRTH") 2, []),
  (gaOf "OFF", [.str "off"]), (gaOf "MUTE", [.str "mute"]),
  (gaOf "MANNERS", [.str "sealed", .str "late", .str "early", .str "counted", .str "open"]),
  (gaOf "START", [.adr (itemAt (gaOf "START") 0), .adr (itemAt (gaOf "START") 1)]),
  (itemAt (gaOf "START") 0, [.int 0, .non, .int 0]), (itemAt (gaOf "START") 1, [.int 0, .non, .int 0])]
def exB (K : PySem.W.Frag) : Bool := consts.all fun c => tupAtB K (c.1 K) c.2
def tf : List He.Defn := [("is_word", none), ("need_machine", none), ("is_row", none), ("need_table", none), ("World", some "boot"), ("World", some "is_dead"), ("is_same_note", none)]
abbrev R : PySem.W.OpenRow := PySem.W.OpenLaw.row PySem.Challenge.rw_onelife_k29_whole_harms
abbrev hk : PySem.W.Hook := He.hookX 5 fas fn [] tf exB
def ob (s : PySem.W.SharedT) : He.AlX := He.obsX 5 fas fn [] tf exB (HandSHeadRun.getT s)
theorem ob_eq (s : PySem.W.SharedT) : ob s = hk.obs s.abs := He.obsX_eq (HandSHeadRun.getT_eq s)
def loose_0 : List Str := ["_wall", "LifeError", "BadMachine", "BadNumber", "BadMarks", "BadTable", "BadManner", "MOST_STATES", "MOST_OPTIONS", "MOST_LETTERS", "LETTERS", "is_number"]
def loose_12 : List Str := ["need_number", "is_word", "is_option", "need_machine", "way_of", "state_behind", "word_of", "MOST_MARKS", "MOST_ROW", "need_marks", "is_row", "need_table"]
def loose_24 : List Str := ["need_house", "row_of", "told_by", "begins", "along", "BIRTH", "OFF", "MUTE", "World", "is_same_note", "wrong_step", "MANNERS"]
def loose_36 : List Str := ["MOST_HARM", "need_manner", "harm_in", "steps_from", "order_of", "picture_of", "least_harm", "gone_on", "harm_of", "shows_harm", "START", "Walk"]
def loose_48 : List Str := ["paper_of", "is_safe", "_law_taken", "_law_pick", "_law_machine", "_law_row", "_law_every", "_law_table", "_law_world", "_law_bad_world", "_law_spell", "_law_along"]
def loose_60 : List Str := ["_law_two", "_law_bad_fits", "_law_bad_harm", "_law_state_behind", "_law_bad_can", "_law_bad_say", "_law_bad_come", "_law_bad_step", "_law_least"]
def loose : List Str := loose_0 ++ (loose_12 ++ (loose_24 ++ (loose_36 ++ (loose_48 ++ (loose_60)))))
abbrev qv : Program := PySem.W.view R.prog [76]
theorem run (w : World) : HandSHeadRun.RunEq R qv hk ob 40000 loose w := by
  intro os
  kernel_rfl
end K29
set_option Elab.async false
set_option linter.all false
set_option maxRecDepth 100000
set_option maxHeartbeats 4000000
/-! the facts of the text by names -/
namespace K29
open PySem PySem.Spec PyProof.Rows L2
/-- what is known of the text behind its top -/
structure Txt (w : World) (K : PySem.W.Frag) (mg : Str → Option Value) (base : Heap) : Prop where
  x : ∃ hh : Heap, K.In hh ∧ hh.Ns mainGlobals mg ∧ He.SaysX fas fn [] tf exB w hh K
  tb : ∀ p ∈ tf, GxR.TabB base mg (He.cT K p).1 (He.cT K p).2
/-- the tables -/
abbrev TL (K : PySem.W.Frag) : List Addr := tf.map fun p => (He.cT K p).2
section
variable {P : Program} {w : World} {K : PySem.W.Frag} {mg : Str → Option Value} {base : Heap}
theorem Txt.glo (T : Txt w K mg base) (i : Nat) {x : Str} (h : fas[i]? = some (.glo x) := by rfl) : mg x = some (.ref (He.ga K x)) := by
  obtain ⟨hh, X, G, c⟩ := T.x
  exact He.glo_ok X G (c.t.d.fact i h)
theorem Txt.free (T : Txt w K mg base) (i : Nat) {x : Str} (h : fas[i]? = some (.free x) := by rfl) : mg x = none := by
  obtain ⟨hh, X, G, c⟩ := T.x
  exact He.free_ok X G (c.t.d.fact i h)
theorem Txt.int (T : Txt w K mg base) (i : Nat) {x : Str} {n : Int} (h : fas[i]? = some (.int x n) := by rfl) : ∃ t, mg x = some (.int n t) := by
  obtain ⟨hh, X, G, c⟩ := T.x
  exact He.int_ok X G (c.t.d.fact i h)
theorem Txt.str (T : Txt w K mg base) (i : Nat) {x z : Str} (h : fas[i]? = some (.str x z) := by rfl) : ∃ t, mg x = some (.str z t) := by
  obtain ⟨hh, X, G, c⟩ := T.x
  exact He.str_ok X G (c.t.d.fact i h)
theorem Txt.cls (T : Txt w K mg base) (i : Nat) {x : Str} (h : fas[i]? = some (.cls x) := by rfl) : Cls K (He.ga K x) := by
  obtain ⟨hh, X, G, c⟩ := T.x
  exact He.cls_ok (c.t.d.fact i h)
theorem Txt.mkr (T : Txt w K mg base) (i : Nat) {x : Str} (h : fas[i]? = some (.mkr x) := by rfl) : Mk K (He.ga K x) (He.ma K (He.ga K x) "__init__") := by
  obtain ⟨hh, X, G, c⟩ := T.x
  exact He.mkr_ok (c.t.d.fact i h)
theorem Txt.meth (T : Txt w K mg base) (i : Nat) {x m : Str} (h : fas[i]? = some (.meth x m) := by rfl) : Meth K (He.ga K x) m (He.ma K (He.ga K x) m) := by
  obtain ⟨hh, X, G, c⟩ := T.x
  exact He.meth_ok (c.t.d.fact i h)
theorem Txt.noat (T : Txt w K mg base) (i : Nat) {x m : Str} (h : fas[i]? = some (.noat x m) := by rfl) : NoAttr K (He.ga K x) m := by
  obtain ⟨hh, X, G, c⟩ := T.x
  exact He.noat_ok (c.t.d.fact i h)
theorem Txt.fnd (T : Txt w K mg base) (i : Nat) {d : He.DefD} (h : fn[i]? = some d := by rfl) : ∃ fd, FunD K d.name d.qual d.params d.body d.scope (d.dvs K) (d.kws K) (He.fAd K d.at_) fd := by
  obtain ⟨hh, X, G, c⟩ := T.x
  exact c.t.d.def_ i h
theorem Txt.con (T : Txt w K mg base) (i : Nat) {p : PySem.W.Frag → Addr} {vs : List He.Dv} (h : consts[i]? = some (p, vs) := by rfl) (H : Hp) : SqT K H (p K) (vs.map (He.Dv.v K)) := by
  obtain ⟨hh, X, G, c⟩ := T.x
  have h2 : tupAtB K (p K) vs = true := List.all_eq_true.mp (show (consts.all fun c => tupAtB K (c.1 K) c.2) = true from c.more) _ (List.mem_of_getElem? h)
  unfold tupAtB at h2
  cases q : K.lookup (p K) with
  | none =>
    rw [q] at h2
    cases h2
  | some o =>
    obtain ⟨oc, od, dt, osl⟩ := o
    rw [q] at h2
    cases oc with
    | type c =>
      cases dt with
      | seq its n =>
        obtain ⟨h1, h2⟩ := He.ba (show (decide (c = "tuple") && (decide (its.size ≤ sizeLine) && He.relAll (vs.map (He.Dv.v K)) its.toList)) = true from h2)
        obtain ⟨h3, h4⟩ := He.ba h2
        exact .inr ⟨_, its, n, q, congrArg Value.type (of_decide_eq_true h1), rfl, of_decide_eq_true h3, He.relAll_ok h4⟩
      | _ => cases h2
    | _ => cases dt <;> cases h2
/-- a def of the text keeps its promise, and how it is called -/
def Ok (P : Program) (w : World) (K : PySem.W.Frag) (mg : Str → Option Value) (base : Heap) (k : Nat) (p : He.Defn) (ps : List Str) (sp : Sp) : Prop :=
  (∃ fd, FnOk P w K mg base CX0 k (He.fAd K p) fd ps sp ∧ Binds K fd ps []) ∧ PySem.W.keepIn K (.ref (He.fAd K p)) = true
theorem Ok.mono {j k : Nat} {p : He.Defn} {ps : List Str} {sp : Sp} (O : Ok P w K mg base j p ps sp) (h : j ≤ k) : Ok P w K mg base k p ps sp := by
  obtain ⟨⟨fd, F, b⟩, kp⟩ := O
  exact ⟨⟨fd, F.mono h, b⟩, kp⟩
/-- by its body (no exception leaves it) -/
theorem ok_of {x qual : Str} {params : Arguments} {body : List Stmt} {scope : Scope} {N ps : List Str} {k : Nat} {sp : Sp} {p : He.Defn}
    (F : ∃ fd, FunD K x qual params body scope [] [] (He.fAd K p) fd) (S : FnScope N ps scope) (len : ∀ vs H Q E, sp vs H Q E → vs.length = ps.length)
    (hb : ∀ (kV doc pm : Value) (an : Option Addr) (cdv ct : Value) (us : List Value), us.length = ps.length → bindArgs (PySem.W.fnOf x qual params body scope .none kV doc pm an cdv ct) ⟨us, []⟩ = pure (ps.zip us))
    (hbody : ∀ (cdv : Value) (A : Around) (outer : List Env) (s : Shared) (H : Hp) (vs : List V) (Q : VK) (E : XK), Room k (A.deeper (envOfC qual scope s.heap.objs.size (He.fAd K p) cdv)) → sp vs H Q E →
      ∃ t, PSs (cxOf CX0 P w K mg base N qual scope (He.fAd K p) cdv A outer s H E).nox body t ∧ t { nx := fun _ H' => Q .non H', rt := Q } (start N vs) H) : Ok P w K mg base (k + 1) p ps sp := by
  obtain ⟨fd, F⟩ := F
  exact ⟨⟨fd, F.ok S len fun cdv A outer s H vs Q E hr h => by
    obtain ⟨t, h1, h2⟩ := hbody cdv A outer s H vs Q E hr h
    exact ⟨t, h1.nox, h2⟩, FunD.bindsN F hb⟩, F.kp⟩
variable {X : Cx}
theorem pe_gint {x : Str} {n : Int} {pos : Pos} (hg : Gl X x) (h : ∃ t, X.mg x = some (.int n t)) (hd : (x == ("__debug__" : Str)) = false := by decide) : PE X (.Name x pos) (tC (.int n)) := by
  obtain ⟨t, h⟩ := h
  exact pe_glob hg h ⟨t, rfl⟩ hd
theorem pe_gstr {x z : Str} {pos : Pos} (hg : Gl X x) (h : ∃ t, X.mg x = some (.str z t)) (hd : (x == ("__debug__" : Str)) = false := by decide) : PE X (.Name x pos) (tC (.str z)) := by
  obtain ⟨t, h⟩ := h
  exact pe_glob hg h ⟨t, rfl⟩ hd
theorem pe_gref {x : Str} {a : Addr} {pos : Pos} (hg : Gl X x) (h : X.mg x = some (.ref a)) (hd : (x == ("__debug__" : Str)) = false := by decide) : PE X (.Name x pos) (tC (.ref a)) := pe_glob hg h rfl hd
theorem pe_gty {x : Str} {T : String} {pos : Pos} (hg : Gl X x) (h : X.mg x = none) (hv : bootBuiltins x = some (.type T) := by decide +kernel) (hn : x ≠ "__name__" := by decide) (hd : (x == ("__debug__" : Str)) = false := by decide) : PE X (.Name x pos) (tC (.ty T)) := pe_bltn (v := .ty T) (u := .type T) hg h hv rfl hn hd

end
theorem Txt.g_is_number {w : World} {K : PySem.W.Frag} {mg : Str → Option Value} {base : Heap} (T : Txt w K mg base) : mg "is_number" = some (.ref (He.ga K "is_number")) := T.glo 0
theorem Txt.g_need_number {w : World} {K : PySem.W.Frag} {mg : Str → Option Value} {base : Heap} (T : Txt w K mg base) : mg "need_number" = some (.ref (He.ga K "need_number")) := T.glo 1
theorem Txt.g_is_word {w : World} {K : PySem.W.Frag} {mg : Str → Option Value} {base : Heap} (T : Txt w K mg base) : mg "is_word" = some (.ref (He.ga K "is_word")) := T.glo 2
theorem Txt.g_is_option {w : World} {K : PySem.W.Frag} {mg : Str → Option Value} {base : Heap} (T : Txt w K mg base) : mg "is_option" = some (.ref (He.ga K "is_option")) := T.glo 3
theorem Txt.g_need_machine {w : World} {K : PySem.W.Frag} {mg : Str → Option Value} {base : Heap} (T : Txt w K mg base) : mg "need_machine" = some (.ref (He.ga K "need_machine")) := T.glo 4
theorem Txt.g_way_of {w : World} {K : PySem.W.Frag} {mg : Str → Option Value} {base : Heap} (T : Txt w K mg base) : mg "way_of" = some (.ref (He.ga K "way_of")) := T.glo 5
theorem Txt.g_state_behind {w : World} {K : PySem.W.Frag} {mg : Str → Option Value} {base : Heap} (T : Txt w K mg base) : mg "state_behind" = some (.ref (He.ga K "state_behind")) := T.glo 6
theorem Txt.g_word_of {w : World} {K : PySem.W.Frag} {mg : Str → Option Value} {base : Heap} (T : Txt w K mg base) : mg "word_of" = some (.ref (He.ga K "word_of")) := T.glo 7
theorem Txt.g_need_marks {w : World} {K : PySem.W.Frag} {mg : Str → Option Value} {base : Heap} (T : Txt w K mg base) : mg "need_marks" = some (.ref (He.ga K "need_marks")) := T.glo 8
theorem Txt.g_is_row {w : World} {K : PySem.W.Frag} {mg : Str → Option Value} {base : Heap} (T : Txt w K mg base) : mg "is_row" = some (.ref (He.ga K "is_row")) := T.glo 9
theorem Txt.g_need_table {w : World} {K : PySem.W.Frag} {mg : Str → Option Value} {base : Heap} (T : Txt w K mg base) : mg "need_table" = some (.ref (He.ga K "need_table")) := T.glo 10
theorem Txt.g_need_house {w : World} {K : PySem.W.Frag} {mg : Str → Option Value} {base : Heap} (T : Txt w K mg base) : mg "need_house" = some (.ref (He.ga K "need_house")) := T.glo 11
theorem Txt.g_row_of {w : World} {K : PySem.W.Frag} {mg : Str → Option Value} {base : Heap} (T : Txt w K mg base) : mg "row_of" = some (.ref (He.ga K "row_of")) := T.glo 12
theorem Txt.g_told_by {w : World} {K : PySem.W.Frag} {mg : Str → Option Value} {base : Heap} (T : Txt w K mg base) : mg "told_by" = some (.ref (He.ga K "told_by")) := T.glo 13
theorem Txt.g_begins {w : World} {K : PySem.W.Frag} {mg : Str → Option Value} {base : Heap} (T : Txt w K mg base) : mg "begins" = some (.ref (He.ga K "begins")) := T.glo 14
theorem Txt.g_along {w : World} {K : PySem.W.Frag} {mg : Str → Option Value} {base : Heap} (T : Txt w K mg base) : mg "along" = some (.ref (He.ga K "along")) := T.glo 15
theorem Txt.g_is_same_note {w : World} {K : PySem.W.Frag} {mg : Str → Option Value} {base : Heap} (T : Txt w K mg base) : mg "is_same_note" = some (.ref (He.ga K "is_same_note")) := T.glo 16
theorem Txt.g_wrong_step {w : World} {K : PySem.W.Frag} {mg : Str → Option Value} {base : Heap} (T : Txt w K mg base) : mg "wrong_step" = some (.ref (He.ga K "wrong_step")) := T.glo 17
theorem Txt.g_need_manner {w : World} {K : PySem.W.Frag} {mg : Str → Option Value} {base : Heap} (T : Txt w K mg base) : mg "need_manner" = some (.ref (He.ga K "need_manner")) := T.glo 18
theorem Txt.g_harm_in {w : World} {K : PySem.W.Frag} {mg : Str → Option Value} {base : Heap} (T : Txt w K mg base) : mg "harm_in" = some (.ref (He.ga K "harm_in")) := T.glo 19
theorem Txt.g_steps_from {w : World} {K : PySem.W.Frag} {mg : Str → Option Value} {base : Heap} (T : Txt w K mg base) : mg "steps_from" = some (.ref (He.ga K "steps_from")) := T.glo 20
theorem Txt.g_order_of {w : World} {K : PySem.W.Frag} {mg : Str → Option Value} {base : Heap} (T : Txt w K mg base) : mg "order_of" = some (.ref (He.ga K "order_of")) := T.glo 21
theorem Txt.g_picture_of {w : World} {K : PySem.W.Frag} {mg : Str → Option Value} {base : Heap} (T : Txt w K mg base) : mg "picture_of" = some (.ref (He.ga K "picture_of")) := T.glo 22
theorem Txt.g_least_harm {w : World} {K : PySem.W.Frag} {mg : Str → Option Value} {base : Heap} (T : Txt w K mg base) : mg "least_harm" = some (.ref (He.ga K "least_harm")) := T.glo 23
theorem Txt.g_gone_on {w : World} {K : PySem.W.Frag} {mg : Str → Option Value} {base : Heap} (T : Txt w K mg base) : mg "gone_on" = some (.ref (He.ga K "gone_on")) := T.glo 24
theorem Txt.g_harm_of {w : World} {K : PySem.W.Frag} {mg : Str → Option Value} {base : Heap} (T : Txt w K mg base) : mg "harm_of" = some (.ref (He.ga K "harm_of")) := T.glo 25
theorem Txt.g_shows_harm {w : World} {K : PySem.W.Frag} {mg : Str → Option Value} {base : Heap} (T : Txt w K mg base) : mg "shows_harm" = some (.ref (He.ga K "shows_harm")) := T.glo 26
theorem Txt.g_paper_of {w : World} {K : PySem.W.Frag} {mg : Str → Option Value} {base : Heap} (T : Txt w K mg base) : mg "paper_of" = some (.ref (He.ga K "paper_of")) := T.glo 27
theorem Txt.g_is_safe {w : World} {K : PySem.W.Frag} {mg : Str → Option Value} {base : Heap} (T : Txt w K mg base) : mg "is_safe" = some (.ref (He.ga K "is_safe")) := T.glo 28
theorem Txt.g_law_taken {w : World} {K : PySem.W.Frag} {mg : Str → Option Value} {base : Heap} (T : Txt w K mg base) : mg "_law_taken" = some (.ref (He.ga K "_law_taken")) := T.glo 29
theorem Txt.g_law_pick {w : World} {K : PySem.W.Frag} {mg : Str → Option Value} {base : Heap} (T : Txt w K mg base) : mg "_law_pick" = some (.ref (He.ga K "_law_pick")) := T.glo 30
theorem Txt.g_law_machine {w : World} {K : PySem.W.Frag} {mg : Str → Option Value} {base : Heap} (T : Txt w K mg base) : mg "_law_machine" = some (.ref (He.ga K "_law_machine")) := T.glo 31
theorem Txt.g_law_row {w : World} {K : PySem.W.Frag} {mg : Str → Option Value} {base : Heap} (T : Txt w K mg base) : mg "_law_row" = some (.ref (He.ga K "_law_row")) := T.glo 32
theorem Txt.g_law_every {w : World} {K : PySem.W.Frag} {mg : Str → Option Value} {base : Heap} (T : Txt w K mg base) : mg "_law_every" = some (.ref (He.ga K "_law_every")) := T.glo 33
theorem Txt.g_law_table {w : World} {K : PySem.W.Frag} {mg : Str → Option Value} {base : Heap} (T : Txt w K mg base) : mg "_law_table" = some (.ref (He.ga K "_law_table")) := T.glo 34
theorem Txt.g_law_world {w : World} {K : PySem.W.Frag} {mg : Str → Option Value} {base : Heap} (T : Txt w K mg base) : mg "_law_world" = some (.ref (He.ga K "_law_world")) := T.glo 35
theorem Txt.g_law_bad_world {w : World} {K : PySem.W.Frag} {mg : Str → Option Value} {base : Heap} (T : Txt w K mg base) : mg "_law_bad_world" = some (.ref (He.ga K "_law_bad_world")) := T.glo 36
theorem Txt.g_law_spell {w : World} {K : PySem.W.Frag} {mg : Str → Option Value} {base : Heap} (T : Txt w K mg base) : mg "_law_spell" = some (.ref (He.ga K "_law_spell")) := T.glo 37
theorem Txt.g_law_along {w : World} {K : PySem.W.Frag} {mg : Str → Option Value} {base : Heap} (T : Txt w K mg base) : mg "_law_along" = some (.ref (He.ga K "_law_along")) := T.glo 38
theorem Txt.g_law_two {w : World} {K : PySem.W.Frag} {mg : Str → Option Value} {base : Heap} (T : Txt w K mg base) : mg "_law_two" = some (.ref (He.ga K "_law_two")) := T.glo 39
theorem Txt.g_law_bad_fits {w : World} {K : PySem.W.Frag} {mg : Str → Option Value} {base : Heap} (T : Txt w K mg base) : mg "_law_bad_fits" = some (.ref (He.ga K "_law_bad_fits")) := T.glo 40
theorem Txt.g_law_bad_harm {w : World} {K : PySem.W.Frag} {mg : Str → Option Value} {base : Heap} (T : Txt w K mg base) : mg "_law_bad_harm" = some (.ref (He.ga K "_law_bad_harm")) := T.glo 41
theorem Txt.g_law_state_behind {w : World} {K : PySem.W.Frag} {mg : Str → Option Value} {base : Heap} (T : Txt w K mg base) : mg "_law_state_behind" = some (.ref (He.ga K "_law_state_behind")) := T.glo 42
theorem Txt.g_law_bad_can {w : World} {K : PySem.W.Frag} {mg : Str → Option Value} {base : Heap} (T : Txt w K mg base) : mg "_law_bad_can" = some (.ref (He.ga K "_law_bad_can")) := T.glo 43
theorem Txt.g_law_bad_say {w : World} {K : PySem.W.Frag} {mg : Str → Option Value} {base : Heap} (T : Txt w K mg base) : mg "_law_bad_say" = some (.ref (He.ga K "_law_bad_say")) := T.glo 44
theorem Txt.g_law_bad_come {w : World} {K : PySem.W.Frag} {mg : Str → Option Value} {base : Heap} (T : Txt w K mg base) : mg "_law_bad_come" = some (.ref (He.ga K "_law_bad_come")) := T.glo 45
theorem Txt.g_law_bad_step {w : World} {K : PySem.W.Frag} {mg : Str → Option Value} {base : Heap} (T : Txt w K mg base) : mg "_law_bad_step" = some (.ref (He.ga K "_law_bad_step")) := T.glo 46
theorem Txt.g_law_least {w : World} {K : PySem.W.Frag} {mg : Str → Option Value} {base : Heap} (T : Txt w K mg base) : mg "_law_least" = some (.ref (He.ga K "_law_least")) := T.glo 47
theorem Txt.g_law {w : World} {K : PySem.W.Frag} {mg : Str → Option Value} {base : Heap} (T : Txt w K mg base) : mg "law" = some (.ref (He.ga K "law")) := T.glo 48
theorem Txt.g_isinstance {w : World} {K : PySem.W.Frag} {mg : Str → Option Value} {base : Heap} (T : Txt w K mg base) : mg "isinstance" = none := T.free 49
theorem Txt.g_len {w : World} {K : PySem.W.Frag} {mg : Str → Option Value} {base : Heap} (T : Txt w K mg base) : mg "len" = none := T.free 50
theorem Txt.g_all {w : World} {K : PySem.W.Frag} {mg : Str → Option Value} {base : Heap} (T : Txt w K mg base) : mg "all" = none := T.free 51
theorem Txt.g_any {w : World} {K : PySem.W.Frag} {mg : Str → Option Value} {base : Heap} (T : Txt w K mg base) : mg "any" = none := T.free 52
theorem Txt.g_enumerate {w : World} {K : PySem.W.Frag} {mg : Str → Option Value} {base : Heap} (T : Txt w K mg base) : mg "enumerate" = none := T.free 53
theorem Txt.g_range {w : World} {K : PySem.W.Frag} {mg : Str → Option Value} {base : Heap} (T : Txt w K mg base) : mg "range" = none := T.free 54
theorem Txt.g_tuple {w : World} {K : PySem.W.Frag} {mg : Str → Option Value} {base : Heap} (T : Txt w K mg base) : mg "tuple" = none := T.free 55
theorem Txt.g_list {w : World} {K : PySem.W.Frag} {mg : Str → Option Value} {base : Heap} (T : Txt w K mg base) : mg "list" = none := T.free 56
theorem Txt.g_sorted {w : World} {K : PySem.W.Frag} {mg : Str → Option Value} {base : Heap} (T : Txt w K mg base) : mg "sorted" = none := T.free 57
theorem Txt.g_dict {w : World} {K : PySem.W.Frag} {mg : Str → Option Value} {base : Heap} (T : Txt w K mg base) : mg "dict" = none := T.free 58
theorem Txt.g_int {w : World} {K : PySem.W.Frag} {mg : Str → Option Value} {base : Heap} (T : Txt w K mg base) : mg "int" = none := T.free 59
theorem Txt.g_bool {w : World} {K : PySem.W.Frag} {mg : Str → Option Value} {base : Heap} (T : Txt w K mg base) : mg "bool" = none := T.free 60
theorem Txt.g_str {w : World} {K : PySem.W.Frag} {mg : Str → Option Value} {base : Heap} (T : Txt w K mg base) : mg "str" = none := T.free 61
theorem Txt.g_min {w : World} {K : PySem.W.Frag} {mg : Str → Option Value} {base : Heap} (T : Txt w K mg base) : mg "min" = none := T.free 62
theorem Txt.g_World {w : World} {K : PySem.W.Frag} {mg : Str → Option Value} {base : Heap} (T : Txt w K mg base) : mg "World" = some (.ref (He.ga K "World")) := T.glo 63
theorem Txt.c_World {w : World} {K : PySem.W.Frag} {mg : Str → Option Value} {base : Heap} (T : Txt w K mg base) : Cls K (He.ga K "World") := T.cls 64
theorem Txt.mk_World {w : World} {K : PySem.W.Frag} {mg : Str → Option Value} {base : Heap} (T : Txt w K mg base) : Mk K (He.ga K "World") (He.ma K (He.ga K "World") "__init__") := T.mkr 65
theorem Txt.m_w_twin {w : World} {K : PySem.W.Frag} {mg : Str → Option Value} {base : Heap} (T : Txt w K mg base) : Meth K (He.ga K "World") "twin" (He.ma K (He.ga K "World") "twin") := T.meth 66
theorem Txt.m_w_fits {w : World} {K : PySem.W.Frag} {mg : Str → Option Value} {base : Heap} (T : Txt w K mg base) : Meth K (He.ga K "World") "fits" (He.ma K (He.ga K "World") "fits") := T.meth 67
theorem Txt.m_w_say {w : World} {K : PySem.W.Frag} {mg : Str → Option Value} {base : Heap} (T : Txt w K mg base) : Meth K (He.ga K "World") "say" (He.ma K (He.ga K "World") "say") := T.meth 68
theorem Txt.m_w_seal {w : World} {K : PySem.W.Frag} {mg : Str → Option Value} {base : Heap} (T : Txt w K mg base) : Meth K (He.ga K "World") "seal" (He.ma K (He.ga K "World") "seal") := T.meth 69
theorem Txt.m_w_come_to {w : World} {K : PySem.W.Frag} {mg : Str → Option Value} {base : Heap} (T : Txt w K mg base) : Meth K (He.ga K "World") "come_to" (He.ma K (He.ga K "World") "come_to") := T.meth 70
theorem Txt.m_w_boot {w : World} {K : PySem.W.Frag} {mg : Str → Option Value} {base : Heap} (T : Txt w K mg base) : Meth K (He.ga K "World") "boot" (He.ma K (He.ga K "World") "boot") := T.meth 71
theorem Txt.m_w_ask {w : World} {K : PySem.W.Frag} {mg : Str → Option Value} {base : Heap} (T : Txt w K mg base) : Meth K (He.ga K "World") "ask" (He.ma K (He.ga K "World") "ask") := T.meth 72
theorem Txt.m_w_turn {w : World} {K : PySem.W.Frag} {mg : Str → Option Value} {base : Heap} (T : Txt w K mg base) : Meth K (He.ga K "World") "turn" (He.ma K (He.ga K "World") "turn") := T.meth 73
theorem Txt.m_w_seal_late {w : World} {K : PySem.W.Frag} {mg : Str → Option Value} {base : Heap} (T : Txt w K mg base) : Meth K (He.ga K "World") "seal_late" (He.ma K (He.ga K "World") "seal_late") := T.meth 74
theorem Txt.m_w_cut {w : World} {K : PySem.W.Frag} {mg : Str → Option Value} {base : Heap} (T : Txt w K mg base) : Meth K (He.ga K "World") "cut" (He.ma K (He.ga K "World") "cut") := T.meth 75
theorem Txt.m_w_do {w : World} {K : PySem.W.Frag} {mg : Str → Option Value} {base : Heap} (T : Txt w K mg base) : Meth K (He.ga K "World") "do" (He.ma K (He.ga K "World") "do") := T.meth 76
theorem Txt.m_w_is_dead {w : World} {K : PySem.W.Frag} {mg : Str → Option Value} {base : Heap} (T : Txt w K mg base) : Meth K (He.ga K "World") "is_dead" (He.ma K (He.ga K "World") "is_dead") := T.meth 77
theorem Txt.m_w_pair {w : World} {K : PySem.W.Frag} {mg : Str → Option Value} {base : Heap} (T : Txt w K mg base) : Meth K (He.ga K "World") "pair" (He.ma K (He.ga K "World") "pair") := T.meth 78
theorem Txt.g_Walk {w : World} {K : PySem.W.Frag} {mg : Str → Option Value} {base : Heap} (T : Txt w K mg base) : mg "Walk" = some (.ref (He.ga K "Walk")) := T.glo 79
theorem Txt.c_Walk {w : World} {K : PySem.W.Frag} {mg : Str → Option Value} {base : Heap} (T : Txt w K mg base) : Cls K (He.ga K "Walk") := T.cls 80
theorem Txt.mk_Walk {w : World} {K : PySem.W.Frag} {mg : Str → Option Value} {base : Heap} (T : Txt w K mg base) : Mk K (He.ga K "Walk") (He.ma K (He.ga K "Walk") "__init__") := T.mkr 81
theorem Txt.m_k_bring_near {w : World} {K : PySem.W.Frag} {mg : Str → Option Value} {base : Heap} (T : Txt w K mg base) : Meth K (He.ga K "Walk") "bring_near" (He.ma K (He.ga K "Walk") "bring_near") := T.meth 82
theorem Txt.m_k_marks_to_word {w : World} {K : PySem.W.Frag} {mg : Str → Option Value} {base : Heap} (T : Txt w K mg base) : Meth K (He.ga K "Walk") "marks_to_word" (He.ma K (He.ga K "Walk") "marks_to_word") := T.meth 83
theorem Txt.m_k_choices {w : World} {K : PySem.W.Frag} {mg : Str → Option Value} {base : Heap} (T : Txt w K mg base) : Meth K (He.ga K "Walk") "choices" (He.ma K (He.ga K "Walk") "choices") := T.meth 84
theorem Txt.m_k_next_mark {w : World} {K : PySem.W.Frag} {mg : Str → Option Value} {base : Heap} (T : Txt w K mg base) : Meth K (He.ga K "Walk") "next_mark" (He.ma K (He.ga K "Walk") "next_mark") := T.meth 85
theorem Txt.m_k_gone_on {w : World} {K : PySem.W.Frag} {mg : Str → Option Value} {base : Heap} (T : Txt w K mg base) : Meth K (He.ga K "Walk") "gone_on" (He.ma K (He.ga K "Walk") "gone_on") := T.meth 86
theorem Txt.m_k_together {w : World} {K : PySem.W.Frag} {mg : Str → Option Value} {base : Heap} (T : Txt w K mg base) : Meth K (He.ga K "Walk") "together" (He.ma K (He.ga K "Walk") "together") := T.meth 87
theorem Txt.m_k_chosen {w : World} {K : PySem.W.Frag} {mg : Str → Option Value} {base : Heap} (T : Txt w K mg base) : Meth K (He.ga K "Walk") "chosen" (He.ma K (He.ga K "Walk") "chosen") := T.meth 88
theorem Txt.m_k_marks_to_part {w : World} {K : PySem.W.Frag} {mg : Str → Option Value} {base : Heap} (T : Txt w K mg base) : Meth K (He.ga K "Walk") "marks_to_part" (He.ma K (He.ga K "Walk") "marks_to_part") := T.meth 89
theorem Txt.n_w_machine {w : World} {K : PySem.W.Frag} {mg : Str → Option Value} {base : Heap} (T : Txt w K mg base) : NoAttr K (He.ga K "World") "machine" := T.noat 90
theorem Txt.n_w_table {w : World} {K : PySem.W.Frag} {mg : Str → Option Value} {base : Heap} (T : Txt w K mg base) : NoAttr K (He.ga K "World") "table" := T.noat 91
theorem Txt.n_w_manner {w : World} {K : PySem.W.Frag} {mg : Str → Option Value} {base : Heap} (T : Txt w K mg base) : NoAttr K (He.ga K "World") "manner" := T.noat 92
theorem Txt.n_w_reading {w : World} {K : PySem.W.Frag} {mg : Str → Option Value} {base : Heap} (T : Txt w K mg base) : NoAttr K (He.ga K "World") "reading" := T.noat 93
theorem Txt.n_w_notes {w : World} {K : PySem.W.Frag} {mg : Str → Option Value} {base : Heap} (T : Txt w K mg base) : NoAttr K (He.ga K "World") "notes" := T.noat 94
theorem Txt.n_w_standing {w : World} {K : PySem.W.Frag} {mg : Str → Option Value} {base : Heap} (T : Txt w K mg base) : NoAttr K (He.ga K "World") "standing" := T.noat 95
theorem Txt.n_w_said {w : World} {K : PySem.W.Frag} {mg : Str → Option Value} {base : Heap} (T : Txt w K mg base) : NoAttr K (He.ga K "World") "said" := T.noat 96
theorem Txt.n_w_speakers {w : World} {K : PySem.W.Frag} {mg : Str → Option Value} {base : Heap} (T : Txt w K mg base) : NoAttr K (He.ga K "World") "speakers" := T.noat 97
theorem Txt.n_k_machine {w : World} {K : PySem.W.Frag} {mg : Str → Option Value} {base : Heap} (T : Txt w K mg base) : NoAttr K (He.ga K "Walk") "machine" := T.noat 98
theorem Txt.n_k_table {w : World} {K : PySem.W.Frag} {mg : Str → Option Value} {base : Heap} (T : Txt w K mg base) : NoAttr K (He.ga K "Walk") "table" := T.noat 99
theorem Txt.n_k_near {w : World} {K : PySem.W.Frag} {mg : Str → Option Value} {base : Heap} (T : Txt w K mg base) : NoAttr K (He.ga K "Walk") "near" := T.noat 100
theorem Txt.g_MOST_STATES {w : World} {K : PySem.W.Frag} {mg : Str → Option Value} {base : Heap} (T : Txt w K mg base) : ∃ t, mg "MOST_STATES" = some (.int 40 t) := T.int 101
theorem Txt.g_MOST_OPTIONS {w : World} {K : PySem.W.Frag} {mg : Str → Option Value} {base : Heap} (T : Txt w K mg base) : ∃ t, mg "MOST_OPTIONS" = some (.int 6 t) := T.int 102
theorem Txt.g_MOST_LETTERS {w : World} {K : PySem.W.Frag} {mg : Str → Option Value} {base : Heap} (T : Txt w K mg base) : ∃ t, mg "MOST_LETTERS" = some (.int 8 t) := T.int 103
theorem Txt.g_LETTERS {w : World} {K : PySem.W.Frag} {mg : Str → Option Value} {base : Heap} (T : Txt w K mg base) : ∃ t, mg "LETTERS" = some (.str "abcdefghijklmnopqrstuvwxyz" t) := T.str 104
theorem Txt.g_MOST_MARKS {w : World} {K : PySem.W.Frag} {mg : Str → Option Value} {base : Heap} (T : Txt w K mg base) : ∃ t, mg "MOST_MARKS" = some (.int 4 t) := T.int 105
theorem Txt.g_MOST_ROW {w : World} {K : PySem.W.Frag} {mg : Str → Option Value} {base : Heap} (T : Txt w K mg base) : ∃ t, mg "MOST_ROW" = some (.int 8 t) := T.int 106
theorem Txt.g_BIRTH {w : World} {K : PySem.W.Frag} {mg : Str → Option Value} {base : Heap} (T : Txt w K mg base) : mg "BIRTH" = some (.ref (He.ga K "BIRTH")) := T.glo 107
theorem Txt.g_OFF {w : World} {K : PySem.W.Frag} {mg : Str → Option Value} {base : Heap} (T : Txt w K mg base) : mg "OFF" = some (.ref (He.ga K "OFF")) := T.glo 108
theorem Txt.g_MUTE {w : World} {K : PySem.W.Frag} {mg : Str → Option Value} {base : Heap} (T : Txt w K mg base) : mg "MUTE" = some (.ref (He.ga K "MUTE")) := T.glo 109
theorem Txt.g_MANNERS {w : World} {K : PySem.W.Frag} {mg : Str → Option Value} {base : Heap} (T : Txt w K mg base) : mg "MANNERS" = some (.ref (He.ga K "MANNERS")) := T.glo 110
theorem Txt.g_MOST_HARM {w : World} {K : PySem.W.Frag} {mg : Str → Option Value} {base : Heap} (T : Txt w K mg base) : ∃ t, mg "MOST_HARM" = some (.int 9 t) := T.int 111
theorem Txt.g_START {w : World} {K : PySem.W.Frag} {mg : Str → Option Value} {base : Heap} (T : Txt w K mg base) : mg "START" = some (.ref (He.ga K "START")) := T.glo 112
theorem Txt.f_is_number {w : World} {K : PySem.W.Frag} {mg : Str → Option Value} {base : Heap} (T : Txt w K mg base) : ∃ fd, FunD K d_is_number.name d_is_number.qual d_is_number.params d_is_number.body d_is_number.scope (d_is_number.dvs K) (d_is_number.kws K) (He.fAd K d_is_number.at_) fd := T.fnd 0
theorem Txt.f_need_number {w : World} {K : PySem.W.Frag} {mg : Str → Option Value} {base : Heap} (T : Txt w K mg base) : ∃ fd, FunD K d_need_number.name d_need_number.qual d_need_number.params d_need_number.body d_need_number.scope (d_need_number.dvs K) (d_need_number.kws K) (He.fAd K d_need_number.at_) fd := T.fnd 1
theorem Txt.f_is_word {w : World} {K : PySem.W.Frag} {mg : Str → Option Value} {base : Heap} (T : Txt w K mg base) : ∃ fd, FunD K d_is_word.name d_is_word.qual d_is_word.params d_is_word.body d_is_word.scope (d_is_word.dvs K) (d_is_word.kws K) (He.fAd K d_is_word.at_) fd := T.fnd 2
theorem Txt.f_is_option {w : World} {K : PySem.W.Frag} {mg : Str → Option Value} {base : Heap} (T : Txt w K mg base) : ∃ fd, FunD K d_is_option.name d_is_option.qual d_is_option.params d_is_option.body d_is_option.scope (d_is_option.dvs K) (d_is_option.kws K) (He.fAd K d_is_option.at_) fd := T.fnd 3
theorem Txt.f_need_machine {w : World} {K : PySem.W.Frag} {mg : Str → Option Value} {base : Heap} (T : Txt w K mg base) : ∃ fd, FunD K d_need_machine.name d_need_machine.qual d_need_machine.params d_need_machine.body d_need_machine.scope (d_need_machine.dvs K) (d_need_machine.kws K) (He.fAd K d_need_machine.at_) fd := T.fnd 4
theorem Txt.f_way_of {w : World} {K : PySem.W.Frag} {mg : Str → Option Value} {base : Heap} (T : Txt w K mg base) : ∃ fd, FunD K d_way_of.name d_way_of.qual d_way_of.params d_way_of.body d_way_of.scope (d_way_of.dvs K) (d_way_of.kws K) (He.fAd K d_way_of.at_) fd := T.fnd 5
theorem Txt.f_state_behind {w : World} {K : PySem.W.Frag} {mg : Str → Option Value} {base : Heap} (T : Txt w K mg base) : ∃ fd, FunD K d_state_behind.name d_state_behind.qual d_state_behind.params d_state_behind.body d_state_behind.scope (d_state_behind.dvs K) (d_state_behind.kws K) (He.fAd K d_state_behind.at_) fd := T.fnd 6
theorem Txt.f_word_of {w : World} {K : PySem.W.Frag} {mg : Str → Option Value} {base : Heap} (T : Txt w K mg base) : ∃ fd, FunD K d_word_of.name d_word_of.qual d_word_of.params d_word_of.body d_word_of.scope (d_word_of.dvs K) (d_word_of.kws K) (He.fAd K d_word_of.at_) fd := T.fnd 7
theorem Txt.f_need_marks {w : World} {K : PySem.W.Frag} {mg : Str → Option Value} {base : Heap} (T : Txt w K mg base) : ∃ fd, FunD K d_need_marks.name d_need_marks.qual d_need_marks.params d_need_marks.body d_need_marks.scope (d_need_marks.dvs K) (d_need_marks.kws K) (He.fAd K d_need_marks.at_) fd := T.fnd 8
theorem Txt.f_is_row {w : World} {K : PySem.W.Frag} {mg : Str → Option Value} {base : Heap} (T : Txt w K mg base) : ∃ fd, FunD K d_is_row.name d_is_row.qual d_is_row.params d_is_row.body d_is_row.scope (d_is_row.dvs K) (d_is_row.kws K) (He.fAd K d_is_row.at_) fd := T.fnd 9
theorem Txt.f_need_table {w : World} {K : PySem.W.Frag} {mg : Str → Option Value} {base : Heap} (T : Txt w K mg base) : ∃ fd, FunD K d_need_table.name d_need_table.qual d_need_table.params d_need_table.body d_need_table.scope (d_need_table.dvs K) (d_need_table.kws K) (He.fAd K d_need_table.at_) fd := T.fnd 10
theorem Txt.f_need_house {w : World} {K : PySem.W.Frag} {mg : Str → Option Value} {base : Heap} (T : Txt w K mg base) : ∃ fd, FunD K d_need_house.name d_need_house.qual d_need_house.params d_need_house.body d_need_house.scope (d_need_house.dvs K) (d_need_house.kws K) (He.fAd K d_need_house.at_) fd := T.fnd 11
theorem Txt.f_row_of {w : World} {K : PySem.W.Frag} {mg : Str → Option Value} {base : Heap} (T : Txt w K mg base) : ∃ fd, FunD K d_row_of.name d_row_of.qual d_row_of.params d_row_of.body d_row_of.scope (d_row_of.dvs K) (d_row_of.kws K) (He.fAd K d_row_of.at_) fd := T.fnd 12
theorem Txt.f_told_by {w : World} {K : PySem.W.Frag} {mg : Str → Option Value} {base : Heap} (T : Txt w K mg base) : ∃ fd, FunD K d_told_by.name d_told_by.qual d_told_by.params d_told_by.body d_told_by.scope (d_told_by.dvs K) (d_told_by.kws K) (He.fAd K d_told_by.at_) fd := T.fnd 13
theorem Txt.f_begins {w : World} {K : PySem.W.Frag} {mg : Str → Option Value} {base : Heap} (T : Txt w K mg base) : ∃ fd, FunD K d_begins.name d_begins.qual d_begins.params d_begins.body d_begins.scope (d_begins.dvs K) (d_begins.kws K) (He.fAd K d_begins.at_) fd := T.fnd 14
theorem Txt.f_along {w : World} {K : PySem.W.Frag} {mg : Str → Option Value} {base : Heap} (T : Txt w K mg base) : ∃ fd, FunD K d_along.name d_along.qual d_along.params d_along.body d_along.scope (d_along.dvs K) (d_along.kws K) (He.fAd K d_along.at_) fd := T.fnd 15
theorem Txt.f_w_init {w : World} {K : PySem.W.Frag} {mg : Str → Option Value} {base : Heap} (T : Txt w K mg base) : ∃ fd, FunD K d_w_init.name d_w_init.qual d_w_init.params d_w_init.body d_w_init.scope (d_w_init.dvs K) (d_w_init.kws K) (He.fAd K d_w_init.at_) fd := T.fnd 16
theorem Txt.f_w_twin {w : World} {K : PySem.W.Frag} {mg : Str → Option Value} {base : Heap} (T : Txt w K mg base) : ∃ fd, FunD K d_w_twin.name d_w_twin.qual d_w_twin.params d_w_twin.body d_w_twin.scope (d_w_twin.dvs K) (d_w_twin.kws K) (He.fAd K d_w_twin.at_) fd := T.fnd 17
theorem Txt.f_w_fits {w : World} {K : PySem.W.Frag} {mg : Str → Option Value} {base : Heap} (T : Txt w K mg base) : ∃ fd, FunD K d_w_fits.name d_w_fits.qual d_w_fits.params d_w_fits.body d_w_fits.scope (d_w_fits.dvs K) (d_w_fits.kws K) (He.fAd K d_w_fits.at_) fd := T.fnd 18
theorem Txt.f_w_say {w : World} {K : PySem.W.Frag} {mg : Str → Option Value} {base : Heap} (T : Txt w K mg base) : ∃ fd, FunD K d_w_say.name d_w_say.qual d_w_say.params d_w_say.body d_w_say.scope (d_w_say.dvs K) (d_w_say.kws K) (He.fAd K d_w_say.at_) fd := T.fnd 19
theorem Txt.f_w_seal {w : World} {K : PySem.W.Frag} {mg : Str → Option Value} {base : Heap} (T : Txt w K mg base) : ∃ fd, FunD K d_w_seal.name d_w_seal.qual d_w_seal.params d_w_seal.body d_w_seal.scope (d_w_seal.dvs K) (d_w_seal.kws K) (He.fAd K d_w_seal.at_) fd := T.fnd 20
theorem Txt.f_w_come_to {w : World} {K : PySem.W.Frag} {mg : Str → Option Value} {base : Heap} (T : Txt w K mg base) : ∃ fd, FunD K d_w_come_to.name d_w_come_to.qual d_w_come_to.params d_w_come_to.body d_w_come_to.scope (d_w_come_to.dvs K) (d_w_come_to.kws K) (He.fAd K d_w_come_to.at_) fd := T.fnd 21
theorem Txt.f_w_boot {w : World} {K : PySem.W.Frag} {mg : Str → Option Value} {base : Heap} (T : Txt w K mg base) : ∃ fd, FunD K d_w_boot.name d_w_boot.qual d_w_boot.params d_w_boot.body d_w_boot.scope (d_w_boot.dvs K) (d_w_boot.kws K) (He.fAd K d_w_boot.at_) fd := T.fnd 22
theorem Txt.f_w_ask {w : World} {K : PySem.W.Frag} {mg : Str → Option Value} {base : Heap} (T : Txt w K mg base) : ∃ fd, FunD K d_w_ask.name d_w_ask.qual d_w_ask.params d_w_ask.body d_w_ask.scope (d_w_ask.dvs K) (d_w_ask.kws K) (He.fAd K d_w_ask.at_) fd := T.fnd 23
theorem Txt.f_w_turn {w : World} {K : PySem.W.Frag} {mg : Str → Option Value} {base : Heap} (T : Txt w K mg base) : ∃ fd, FunD K d_w_turn.name d_w_turn.qual d_w_turn.params d_w_turn.body d_w_turn.scope (d_w_turn.dvs K) (d_w_turn.kws K) (He.fAd K d_w_turn.at_) fd := T.fnd 24
theorem Txt.f_w_seal_late {w : World} {K : PySem.W.Frag} {mg : Str → Option Value} {base : Heap} (T : Txt w K mg base) : ∃ fd, FunD K d_w_seal_late.name d_w_seal_late.qual d_w_seal_late.params d_w_seal_late.body d_w_seal_late.scope (d_w_seal_late.dvs K) (d_w_seal_late.kws K) (He.fAd K d_w_seal_late.at_) fd := T.fnd 25
theorem Txt.f_w_cut {w : World} {K : PySem.W.Frag} {mg : Str → Option Value} {base : Heap} (T : Txt w K mg base) : ∃ fd, FunD K d_w_cut.name d_w_cut.qual d_w_cut.params d_w_cut.body d_w_cut.scope (d_w_cut.dvs K) (d_w_cut.kws K) (He.fAd K d_w_cut.at_) fd := T.fnd 26
theorem Txt.f_w_do {w : World} {K : PySem.W.Frag} {mg : Str → Option Value} {base : Heap} (T : Txt w K mg base) : ∃ fd, FunD K d_w_do.name d_w_do.qual d_w_do.params d_w_do.body d_w_do.scope (d_w_do.dvs K) (d_w_do.kws K) (He.fAd K d_w_do.at_) fd := T.fnd 27
theorem Txt.f_w_is_dead {w : World} {K : PySem.W.Frag} {mg : Str → Option Value} {base : Heap} (T : Txt w K mg base) : ∃ fd, FunD K d_w_is_dead.name d_w_is_dead.qual d_w_is_dead.params d_w_is_dead.body d_w_is_dead.scope (d_w_is_dead.dvs K) (d_w_is_dead.kws K) (He.fAd K d_w_is_dead.at_) fd := T.fnd 28
theorem Txt.f_w_pair {w : World} {K : PySem.W.Frag} {mg : Str → Option Value} {base : Heap} (T : Txt w K mg base) : ∃ fd, FunD K d_w_pair.name d_w_pair.qual d_w_pair.params d_w_pair.body d_w_pair.scope (d_w_pair.dvs K) (d_w_pair.kws K) (He.fAd K d_w_pair.at_) fd := T.fnd 29
theorem Txt.f_is_same_note {w : World} {K : PySem.W.Frag} {mg : Str → Option Value} {base : Heap} (T : Txt w K mg base) : ∃ fd, FunD K d_is_same_note.name d_is_same_note.qual d_is_same_note.params d_is_same_note.body d_is_same_note.scope (d_is_same_note.dvs K) (d_is_same_note.kws K) (He.fAd K d_is_same_note.at_) fd := T.fnd 30
theorem Txt.f_wrong_step {w : World} {K : PySem.W.Frag} {mg : Str → Option Value} {base : Heap} (T : Txt w K mg base) : ∃ fd, FunD K d_wrong_step.name d_wrong_step.qual d_wrong_step.params d_wrong_step.body d_wrong_step.scope (d_wrong_step.dvs K) (d_wrong_step.kws K) (He.fAd K d_wrong_step.at_) fd := T.fnd 31
theorem Txt.f_need_manner {w : World} {K : PySem.W.Frag} {mg : Str → Option Value} {base : Heap} (T : Txt w K mg base) : ∃ fd, FunD K d_need_manner.name d_need_manner.qual d_need_manner.params d_need_manner.body d_need_manner.scope (d_need_manner.dvs K) (d_need_manner.kws K) (He.fAd K d_need_manner.at_) fd := T.fnd 32
theorem Txt.f_harm_in {w : World} {K : PySem.W.Frag} {mg : Str → Option Value} {base : Heap} (T : Txt w K mg base) : ∃ fd, FunD K d_harm_in.name d_harm_in.qual d_harm_in.params d_harm_in.body d_harm_in.scope (d_harm_in.dvs K) (d_harm_in.kws K) (He.fAd K d_harm_in.at_) fd := T.fnd 33
theorem Txt.f_steps_from {w : World} {K : PySem.W.Frag} {mg : Str → Option Value} {base : Heap} (T : Txt w K mg base) : ∃ fd, FunD K d_steps_from.name d_steps_from.qual d_steps_from.params d_steps_from.body d_steps_from.scope (d_steps_from.dvs K) (d_steps_from.kws K) (He.fAd K d_steps_from.at_) fd := T.fnd 34
theorem Txt.f_order_of {w : World} {K : PySem.W.Frag} {mg : Str → Option Value} {base : Heap} (T : Txt w K mg base) : ∃ fd, FunD K d_order_of.name d_order_of.qual d_order_of.params d_order_of.body d_order_of.scope (d_order_of.dvs K) (d_order_of.kws K) (He.fAd K d_order_of.at_) fd := T.fnd 35
theorem Txt.f_picture_of {w : World} {K : PySem.W.Frag} {mg : Str → Option Value} {base : Heap} (T : Txt w K mg base) : ∃ fd, FunD K d_picture_of.name d_picture_of.qual d_picture_of.params d_picture_of.body d_picture_of.scope (d_picture_of.dvs K) (d_picture_of.kws K) (He.fAd K d_picture_of.at_) fd := T.fnd 36
theorem Txt.f_least_harm {w : World} {K : PySem.W.Frag} {mg : Str → Option Value} {base : Heap} (T : Txt w K mg base) : ∃ fd, FunD K d_least_harm.name d_least_harm.qual d_least_harm.params d_least_harm.body d_least_harm.scope (d_least_harm.dvs K) (d_least_harm.kws K) (He.fAd K d_least_harm.at_) fd := T.fnd 37
theorem Txt.f_gone_on {w : World} {K : PySem.W.Frag} {mg : Str → Option Value} {base : Heap} (T : Txt w K mg base) : ∃ fd, FunD K d_gone_on.name d_gone_on.qual d_gone_on.params d_gone_on.body d_gone_on.scope (d_gone_on.dvs K) (d_gone_on.kws K) (He.fAd K d_gone_on.at_) fd := T.fnd 38
theorem Txt.f_harm_of {w : World} {K : PySem.W.Frag} {mg : Str → Option Value} {base : Heap} (T : Txt w K mg base) : ∃ fd, FunD K d_harm_of.name d_harm_of.qual d_harm_of.params d_harm_of.body d_harm_of.scope (d_harm_of.dvs K) (d_harm_of.kws K) (He.fAd K d_harm_of.at_) fd := T.fnd 39
theorem Txt.f_shows_harm {w : World} {K : PySem.W.Frag} {mg : Str → Option Value} {base : Heap} (T : Txt w K mg base) : ∃ fd, FunD K d_shows_harm.name d_shows_harm.qual d_shows_harm.params d_shows_harm.body d_shows_harm.scope (d_shows_harm.dvs K) (d_shows_harm.kws K) (He.fAd K d_shows_harm.at_) fd := T.fnd 40
theorem Txt.f_k_init {w : World} {K : PySem.W.Frag} {mg : Str → Option Value} {base : Heap} (T : Txt w K mg base) : ∃ fd, FunD K d_k_init.name d_k_init.qual d_k_init.params d_k_init.body d_k_init.scope (d_k_init.dvs K) (d_k_init.kws K) (He.fAd K d_k_init.at_) fd := T.fnd 41
theorem Txt.f_k_bring_near {w : World} {K : PySem.W.Frag} {mg : Str → Option Value} {base : Heap} (T : Txt w K mg base) : ∃ fd, FunD K d_k_bring_near.name d_k_bring_near.qual d_k_bring_near.params d_k_bring_near.body d_k_bring_near.scope (d_k_bring_near.dvs K) (d_k_bring_near.kws K) (He.fAd K d_k_bring_near.at_) fd := T.fnd 42
theorem Txt.f_k_marks_to_word {w : World} {K : PySem.W.Frag} {mg : Str → Option Value} {base : Heap} (T : Txt w K mg base) : ∃ fd, FunD K d_k_marks_to_word.name d_k_marks_to_word.qual d_k_marks_to_word.params d_k_marks_to_word.body d_k_marks_to_word.scope (d_k_marks_to_word.dvs K) (d_k_marks_to_word.kws K) (He.fAd K d_k_marks_to_word.at_) fd := T.fnd 43
theorem Txt.f_k_choices {w : World} {K : PySem.W.Frag} {mg : Str → Option Value} {base : Heap} (T : Txt w K mg base) : ∃ fd, FunD K d_k_choices.name d_k_choices.qual d_k_choices.params d_k_choices.body d_k_choices.scope (d_k_choices.dvs K) (d_k_choices.kws K) (He.fAd K d_k_choices.at_) fd := T.fnd 44
theorem Txt.f_k_next_mark {w : World} {K : PySem.W.Frag} {mg : Str → Option Value} {base : Heap} (T : Txt w K mg base) : ∃ fd, FunD K d_k_next_mark.name d_k_next_mark.qual d_k_next_mark.params d_k_next_mark.body d_k_next_mark.scope (d_k_next_mark.dvs K) (d_k_next_mark.kws K) (He.fAd K d_k_next_mark.at_) fd := T.fnd 45
theorem Txt.f_k_gone_on {w : World} {K : PySem.W.Frag} {mg : Str → Option Value} {base : Heap} (T : Txt w K mg base) : ∃ fd, FunD K d_k_gone_on.name d_k_gone_on.qual d_k_gone_on.params d_k_gone_on.body d_k_gone_on.scope (d_k_gone_on.dvs K) (d_k_gone_on.kws K) (He.fAd K d_k_gone_on.at_) fd := T.fnd 46
theorem Txt.f_k_together {w : World} {K : PySem.W.Frag} {mg : Str → Option Value} {base : Heap} (T : Txt w K mg base) : ∃ fd, FunD K d_k_together.name d_k_together.qual d_k_together.params d_k_together.body d_k_together.scope (d_k_together.dvs K) (d_k_together.kws K) (He.fAd K d_k_together.at_) fd := T.fnd 47
theorem Txt.f_k_chosen {w : World} {K : PySem.W.Frag} {mg : Str → Option Value} {base : Heap} (T : Txt w K mg base) : ∃ fd, FunD K d_k_chosen.name d_k_chosen.qual d_k_chosen.params d_k_chosen.body d_k_chosen.scope (d_k_chosen.dvs K) (d_k_chosen.kws K) (He.fAd K d_k_chosen.at_) fd := T.fnd 48
theorem Txt.f_k_marks_to_part {w : World} {K : PySem.W.Frag} {mg : Str → Option Value} {base : Heap} (T : Txt w K mg base) : ∃ fd, FunD K d_k_marks_to_part.name d_k_marks_to_part.qual d_k_marks_to_part.params d_k_marks_to_part.body d_k_marks_to_part.scope (d_k_marks_to_part.dvs K) (d_k_marks_to_part.kws K) (He.fAd K d_k_marks_to_part.at_) fd := T.fnd 49
theorem Txt.f_paper_of {w : World} {K : PySem.W.Frag} {mg : Str → Option Value} {base : Heap} (T : Txt w K mg base) : ∃ fd, FunD K d_paper_of.name d_paper_of.qual d_paper_of.params d_paper_of.body d_paper_of.scope (d_paper_of.dvs K) (d_paper_of.kws K) (He.fAd K d_paper_of.at_) fd := T.fnd 50
theorem Txt.f_is_safe {w : World} {K : PySem.W.Frag} {mg : Str → Option Value} {base : Heap} (T : Txt w K mg base) : ∃ fd, FunD K d_is_safe.name d_is_safe.qual d_is_safe.params d_is_safe.body d_is_safe.scope (d_is_safe.dvs K) (d_is_safe.kws K) (He.fAd K d_is_safe.at_) fd := T.fnd 51
theorem Txt.f_law_taken {w : World} {K : PySem.W.Frag} {mg : Str → Option Value} {base : Heap} (T : Txt w K mg base) : ∃ fd, FunD K d_law_taken.name d_law_taken.qual d_law_taken.params d_law_taken.body d_law_taken.scope (d_law_taken.dvs K) (d_law_taken.kws K) (He.fAd K d_law_taken.at_) fd := T.fnd 52
theorem Txt.f_law_pick {w : World} {K : PySem.W.Frag} {mg : Str → Option Value} {base : Heap} (T : Txt w K mg base) : ∃ fd, FunD K d_law_pick.name d_law_pick.qual d_law_pick.params d_law_pick.body d_law_pick.scope (d_law_pick.dvs K) (d_law_pick.kws K) (He.fAd K d_law_pick.at_) fd := T.fnd 53
theorem Txt.f_law_machine {w : World} {K : PySem.W.Frag} {mg : Str → Option Value} {base : Heap} (T : Txt w K mg base) : ∃ fd, FunD K d_law_machine.name d_law_machine.qual d_law_machine.params d_law_machine.body d_law_machine.scope (d_law_machine.dvs K) (d_law_machine.kws K) (He.fAd K d_law_machine.at_) fd := T.fnd 54
theorem Txt.f_law_row {w : World} {K : PySem.W.Frag} {mg : Str → Option Value} {base : Heap} (T : Txt w K mg base) : ∃ fd, FunD K d_law_row.name d_law_row.qual d_law_row.params d_law_row.body d_law_row.scope (d_law_row.dvs K) (d_law_row.kws K) (He.fAd K d_law_row.at_) fd := T.fnd 55
theorem Txt.f_law_every {w : World} {K : PySem.W.Frag} {mg : Str → Option Value} {base : Heap} (T : Txt w K mg base) : ∃ fd, FunD K d_law_every.name d_law_every.qual d_law_every.params d_law_every.body d_law_every.scope (d_law_every.dvs K) (d_law_every.kws K) (He.fAd K d_law_every.at_) fd := T.fnd 56
theorem Txt.f_law_table {w : World} {K : PySem.W.Frag} {mg : Str → Option Value} {base : Heap} (T : Txt w K mg base) : ∃ fd, FunD K d_law_table.name d_law_table.qual d_law_table.params d_law_table.body d_law_table.scope (d_law_table.dvs K) (d_law_table.kws K) (He.fAd K d_law_table.at_) fd := T.fnd 57
theorem Txt.f_law_world {w : World} {K : PySem.W.Frag} {mg : Str → Option Value} {base : Heap} (T : Txt w K mg base) : ∃ fd, FunD K d_law_world.name d_law_world.qual d_law_world.params d_law_world.body d_law_world.scope (d_law_world.dvs K) (d_law_world.kws K) (He.fAd K d_law_world.at_) fd := T.fnd 58
theorem Txt.f_law_bad_world {w : World} {K : PySem.W.Frag} {mg : Str → Option Value} {base : Heap} (T : Txt w K mg base) : ∃ fd, FunD K d_law_bad_world.name d_law_bad_world.qual d_law_bad_world.params d_law_bad_world.body d_law_bad_world.scope (d_law_bad_world.dvs K) (d_law_bad_world.kws K) (He.fAd K d_law_bad_world.at_) fd := T.fnd 59
theorem Txt.f_law_spell {w : World} {K : PySem.W.Frag} {mg : Str → Option Value} {base : Heap} (T : Txt w K mg base) : ∃ fd, FunD K d_law_spell.name d_law_spell.qual d_law_spell.params d_law_spell.body d_law_spell.scope (d_law_spell.dvs K) (d_law_spell.kws K) (He.fAd K d_law_spell.at_) fd := T.fnd 60
theorem Txt.f_law_along {w : World} {K : PySem.W.Frag} {mg : Str → Option Value} {base : Heap} (T : Txt w K mg base) : ∃ fd, FunD K d_law_along.name d_law_along.qual d_law_along.params d_law_along.body d_law_along.scope (d_law_along.dvs K) (d_law_along.kws K) (He.fAd K d_law_along.at_) fd := T.fnd 61
theorem Txt.f_law_two {w : World} {K : PySem.W.Frag} {mg : Str → Option Value} {base : Heap} (T : Txt w K mg base) : ∃ fd, FunD K d_law_two.name d_law_two.qual d_law_two.params d_law_two.body d_law_two.scope (d_law_two.dvs K) (d_law_two.kws K) (He.fAd K d_law_two.at_) fd := T.fnd 62
theorem Txt.f_law_bad_fits {w : World} {K : PySem.W.Frag} {mg : Str → Option Value} {base : Heap} (T : Txt w K mg base) : ∃ fd, FunD K d_law_bad_fits.name d_law_bad_fits.qual d_law_bad_fits.params d_law_bad_fits.body d_law_bad_fits.scope (d_law_bad_fits.dvs K) (d_law_bad_fits.kws K) (He.fAd K d_law_bad_fits.at_) fd := T.fnd 63
theorem Txt.f_law_bad_harm {w : World} {K : PySem.W.Frag} {mg : Str → Option Value} {base : Heap} (T : Txt w K mg base) : ∃ fd, FunD K d_law_bad_harm.name d_law_bad_harm.qual d_law_bad_harm.params d_law_bad_harm.body d_law_bad_harm.scope (d_law_bad_harm.dvs K) (d_law_bad_harm.kws K) (He.fAd K d_law_bad_harm.at_) fd := T.fnd 64
theorem Txt.f_law_state_behind {w : World} {K : PySem.W.Frag} {mg : Str → Option Value} {base : Heap} (T : Txt w K mg base) : ∃ fd, FunD K d_law_state_behind.name d_law_state_behind.qual d_law_state_behind.params d_law_state_behind.body d_law_state_behind.scope (d_law_state_behind.dvs K) (d_law_state_behind.kws K) (He.fAd K d_law_state_behind.at_) fd := T.fnd 65
theorem Txt.f_law_bad_can {w : World} {K : PySem.W.Frag} {mg : Str → Option Value} {base : Heap} (T : Txt w K mg base) : ∃ fd, FunD K d_law_bad_can.name d_law_bad_can.qual d_law_bad_can.params d_law_bad_can.body d_law_bad_can.scope (d_law_bad_can.dvs K) (d_law_bad_can.kws K) (He.fAd K d_law_bad_can.at_) fd := T.fnd 66
theorem Txt.f_law_bad_say {w : World} {K : PySem.W.Frag} {mg : Str → Option Value} {base : Heap} (T : Txt w K mg base) : ∃ fd, FunD K d_law_bad_say.name d_law_bad_say.qual d_law_bad_say.params d_law_bad_say.body d_law_bad_say.scope (d_law_bad_say.dvs K) (d_law_bad_say.kws K) (He.fAd K d_law_bad_say.at_) fd := T.fnd 67
theorem Txt.f_law_bad_come {w : World} {K : PySem.W.Frag} {mg : Str → Option Value} {base : Heap} (T : Txt w K mg base) : ∃ fd, FunD K d_law_bad_come.name d_law_bad_come.qual d_law_bad_come.params d_law_bad_come.body d_law_bad_come.scope (d_law_bad_come.dvs K) (d_law_bad_come.kws K) (He.fAd K d_law_bad_come.at_) fd := T.fnd 68
theorem Txt.f_law_bad_step {w : World} {K : PySem.W.Frag} {mg : Str → Option Value} {base : Heap} (T : Txt w K mg base) : ∃ fd, FunD K d_law_bad_step.name d_law_bad_step.qual d_law_bad_step.params d_law_bad_step.body d_law_bad_step.scope (d_law_bad_step.dvs K) (d_law_bad_step.kws K) (He.fAd K d_law_bad_step.at_) fd := T.fnd 69
theorem Txt.f_law_least {w : World} {K : PySem.W.Frag} {mg : Str → Option Value} {base : Heap} (T : Txt w K mg base) : ∃ fd, FunD K d_law_least.name d_law_least.qual d_law_least.params d_law_least.body d_law_least.scope (d_law_least.dvs K) (d_law_least.kws K) (He.fAd K d_law_least.at_) fd := T.fnd 70
theorem Txt.f_law {w : World} {K : PySem.W.Frag} {mg : Str → Option Value} {base : Heap} (T : Txt w K mg base) : ∃ fd, FunD K d_law.name d_law.qual d_law.params d_law.body d_law.scope (d_law.dvs K) (d_law.kws K) (He.fAd K d_law.at_) fd := T.fnd 71
end K29
set_option Elab.async false
set_option linter.all false
set_option maxRecDepth 100000
set_option maxHeartbeats 4000000
/-! loops, lists that grow; short words -/
namespace K29
open PySem PySem.Spec PyProof.Rows L2
local macro_rules | `(tactic| walk_at "kp") => `(tactic| first | exact Kp.refl _ | assumption | exact Chg.kp (by assumption) | (refine Kp.trans ?_ (Chg.kp (by assumption)); walk_at "kp"))
local macro_rules | `(tactic| walk_at "ext") => `(tactic| first | exact Ext.refl _ | assumption | (refine Ext.trans ?_ (by assumption); walk_at "ext"))
theorem u65 {k : Nat} {A : Around} (r : Room k A) : A.units + 65 < cLine := by
  have := r.un
  omega
section
variable {K : PySem.W.Frag} {H H' H0 H1 H2 : Hp} {σ : L2.St} {v x y z : V} {a b c d : Dt} {ds es : List Dt} {te ta tb tc : TE} {D : Ends} {tz : TS}
/-- the datum in the i-th place -/
theorem ed_v {i : Nat} (hd : Im K H0 v d) (h : σ[i]? = some (some v) := by rfl) (e : Kp H0 H := by walk_at "kp") : Ed K (tVar i) σ H d := ed_var h hd e
theorem el_v {i : Nat} {l : Addr} (hd : LsM K H l ds) (h : σ[i]? = some (some (.ref l)) := by rfl) : EdL K (tVar i) σ H ds := el_var h hd
theorem ev_v {i : Nat} (h : σ[i]? = some (some v) := by rfl) : EdV (tVar i) σ H v := ev_var h
theorem ed_vi {i : Nat} {n : Int} (h : σ[i]? = some (some (.int n)) := by rfl) : Ed K (tVar i) σ H (.int n) := ed_var h (.int n) (Kp.refl H)
theorem ed_vb {i : Nat} {k : Bool} (h : σ[i]? = some (some (.bl k)) := by rfl) : Ed K (tVar i) σ H (.bl k) := ed_var h (.bl k) (Kp.refl H)
theorem ed_neg {n : Int} (h : Ed K ta σ H (.int n)) : Ed K (tUn (rU fun i => .int (-i)) ta) σ H (.int (-n)) := fun H1 e Q q => h H1 e _ fun v H2 e2 hv => by
  cases hv
  exact ⟨n, rfl, q _ H2 e2 (.int _)⟩
/-! a list grows -/
theorem LsM.app {l : Addr} {xs : List V} (h : ImAll K H xs ds) (hv : Im K H v d) (hl : H l = some (.lst xs)) : LsM K (upd H l (.lst (xs ++ [v]))) l (ds ++ [d]) :=
  ⟨_, upd_same, (h.append (.cons hv .nil)).to (Chg.put hl).kp⟩
/-- a change at a thing that stood not there -/
theorem Chg.new {l : Addr} (h : Chg [l] H H1) (n : H l = none) : Ext H H1 := h.ext fun b hb => by rw [List.mem_singleton.mp hb]; exact n
theorem st_app {l : Addr} (hl : LsM K H l ds) (ha : EdV ta σ H (.ref l)) (h : Ed K te σ H d) (hz : ds.length < 1000000) (k : ∀ H1, Chg [l] H H1 → LsM K H1 l (ds ++ [d]) → D.nx σ H1) :
    tDrop (tBM K "list" rAppend ta (tCons te tNil)) D σ H := ha H (Ext.refl H) _ fun H1 e1 => by
  obtain ⟨xs, a1, a2⟩ := hl.to e1
  refine ⟨Or.inl ⟨rfl, _, Or.inl (Or.inl a1)⟩, ?_⟩
  refine h H1 e1 _ fun v H2 e2 hv => ?_
  have b1 := e2.get a1
  refine ⟨l, xs, v, rfl, rfl, b1, Nat.lt_of_lt_of_le (by rw [a2.length]; exact hz) (by decide), ?_⟩
  exact k _ ((e1.trans e2).chg.trans (Chg.put b1)) (LsM.app (a2.to e2.kp) hv b1)
theorem q_app {l : Addr} (hl : LsM K H l ds) (ha : EdV ta σ H (.ref l)) (h : Ed K te σ H d) (hz : ds.length < 1000000) (k : ∀ H1, Chg [l] H H1 → LsM K H1 l (ds ++ [d]) → tz D σ H1) :
    tSeq (tDrop (tBM K "list" rAppend ta (tCons te tNil))) tz D σ H := st_app (D := { D with nx := tz D }) hl ha h hz k
/-! loops -/
theorem g_nm {i : Nat} {v : V} {Q : L2.St → Hp → Prop} (σ' : L2.St) (h : Q σ' H) (e : σ.set i (some v) = σ' := by rfl) : gName i v σ H Q := by
  show Q (σ.set i (some v)) H
  rw [e]
  exact h
theorem g_pair {i j : Nat} {v : V} {a b : Dt} {Q : L2.St → Hp → Prop} (h : Im K H v (.tup [a, b])) (k : ∀ x y, Im K H x a → Im K H y b → Q ((σ.set i (some x)).set j (some y)) H) : gTup K 2 (gCons (gName i) (gCons (gName j) gNil)) v σ H Q := by
  cases h with
  | tup s1 s2 =>
    cases s2 with
    | cons h1 t1 =>
      cases t1 with
      | cons h2 t2 =>
        cases t2
        exact ⟨_, _, rfl, s1, rfl, _, _, rfl, _, _, rfl, rfl, k _ _ h1 h2⟩
/-- over a tuple of data; H1: the heap in which the tuple stands -/
theorem st_forT {tb : TS} {g : TG} (h : Ed K te σ H (.tup ds)) (Pv : Hp → Nat → L2.St → Hp → Prop) (h0 : ∀ H1, Ext H H1 → Pv H1 0 σ H1) (hk : ∀ H1 j σ' H', Pv H1 j σ' H' → Kp H1 H')
    (hs : ∀ H1 j v d σ' H', Ext H H1 → ds[j]? = some d → Pv H1 j σ' H' → Im K H' v d → g v σ' H' fun σ2 H2 => tb { D with nx := Pv H1 (j + 1), ct := Pv H1 (j + 1), bk := D.nx } σ2 H2) (hd : ∀ H1 σ' H', Ext H H1 → Pv H1 ds.length σ' H' → D.nx σ' H') : tFor (iTup K te) g tb D σ H := h H (Ext.refl H) _ fun v H1 e1 hv => by
  cases hv with
  | tup s1 s2 =>
    rename_i a xs
    have hl := s2.length
    refine ⟨a, rfl, ⟨xs, s1⟩, for_tup (K := K) (a := a) (xs := xs) (Pv H1) (h0 H1 e1) (fun j σ' H' _ p => (hk H1 j σ' H' p).sqT s1) (fun j x σ' H' hx p => ?_) fun σ' H' p => hd H1 σ' H' e1 (hl ▸ p)⟩
    obtain ⟨d, e, hd⟩ := s2.getv hx
    exact hs H1 j x d σ' H' e1 e p (hd.to (hk H1 j σ' H' p))
/-- over a list of data that stays -/
theorem st_forL {tb : TS} {g : TG} (h : EdL K te σ H ds) (Pv : Hp → Nat → L2.St → Hp → Prop) (h0 : ∀ H1, Ext H H1 → Pv H1 0 σ H1) (hk : ∀ H1 j σ' H', Pv H1 j σ' H' → Ext H1 H')
    (hs : ∀ H1 j v d σ' H', Ext H H1 → ds[j]? = some d → Pv H1 j σ' H' → Im K H' v d → g v σ' H' fun σ2 H2 => tb { D with nx := Pv H1 (j + 1), ct := Pv H1 (j + 1), bk := D.nx } σ2 H2) (hd : ∀ H1 σ' H', Ext H H1 → Pv H1 ds.length σ' H' → D.nx σ' H') : tFor (iList K te) g tb D σ H := h H (Ext.refl H) _ fun a H1 e1 hv => by
  obtain ⟨xs, s1, s2⟩ := hv
  have hl := s2.length
  refine ⟨a, rfl, ⟨xs, s1⟩, for_list (K := K) (a := a) (xs := xs) (Pv H1) (h0 H1 e1) (fun j σ' H' _ p => (hk H1 j σ' H' p).seqL s1) (fun j x σ' H' hx p => ?_) fun σ' H' p => hd H1 σ' H' e1 (hl ▸ p)⟩
  obtain ⟨d, e, hd⟩ := s2.getv hx
  exact hs H1 j x d σ' H' e1 e p (hd.to (hk H1 j σ' H' p).kp)
/-- over range(n) -/
theorem st_forR1 {tb : TS} {g : TG} {n : Int} (h : Ed K te σ H (.int n)) (hn : n ≤ 1000000 := by omega) (hm : 0 ≤ n := by omega) (Pv : Nat → L2.St → Hp → Prop) (h0 : ∀ H1, Ext H H1 → Pv 0 σ H1)
    (hs : ∀ j σ' H', j < n.toNat → Pv j σ' H' → g (.int (j : Int)) σ' H' fun σ2 H2 => tb { D with nx := Pv (j + 1), ct := Pv (j + 1), bk := D.nx } σ2 H2) (hd : ∀ σ' H', Pv n.toNat σ' H' → D.nx σ' H') : tFor (iRng1 (tCons te tNil)) g tb D σ H := h H (Ext.refl H) _ fun v H1 e1 hv => by
  cases hv
  refine ⟨n, rfl, by omega, by omega, for_range (lo := 0) (n := n.toNat) Pv (h0 H1 e1) (fun j σ' H' hj p => ?_) hd⟩
  have q := hs j σ' H' hj p
  rwa [show ((0 : Int) + (j : Int)) = (j : Int) by omega]
/-- over range(a, b) -/
theorem st_forR2 {tb : TS} {g : TG} {a b : Int} (h : Ed K ta σ H (.int a)) (h' : Ed K te σ H (.int b)) (ha : 0 ≤ a := by omega) (hab : a ≤ 1000000 := by omega) (hb : b ≤ 1000000 := by omega) (hb0 : 0 ≤ b := by omega) (Pv : Nat → L2.St → Hp → Prop) (h0 : ∀ H1, Ext H H1 → Pv 0 σ H1)
    (hs : ∀ j σ' H', j < (b - a).toNat → Pv j σ' H' → g (.int (a + (j : Int))) σ' H' fun σ2 H2 => tb { D with nx := Pv (j + 1), ct := Pv (j + 1), bk := D.nx } σ2 H2) (hd : ∀ σ' H', Pv (b - a).toNat σ' H' → D.nx σ' H') : tFor (iRng2 (tCons ta (tCons te tNil))) g tb D σ H := h H (Ext.refl H) _ fun v H1 e1 hv => h' H1 e1 _ fun v' H2 e2 hv' => by
  cases hv
  cases hv'
  exact ⟨a, b, rfl, ⟨by omega, by omega, by omega, by omega⟩, for_range (lo := a) (n := (b - a).toNat) Pv (h0 H2 (e1.trans e2)) hs hd⟩
/-- while, by a word and a measure -/
theorem st_while {t : TT} {tb : TS} (W : Nat → L2.St → Hp → Prop) (m : Nat) (h0 : W m σ H)
    (hs : ∀ m σ' H', W m σ' H' → ∃ k, EdT t σ' H' k ∧ (k = true → ∀ H1, Ext H' H1 → tb { D with nx := fun s h => ∃ m', m' < m ∧ W m' s h, ct := fun s h => ∃ m', m' < m ∧ W m' s h, bk := D.nx } σ' H1) ∧ (k = false → ∀ H1, Ext H' H1 → D.nx σ' H1)) : tWhile t tb D σ H := by
  refine ⟨W, ⟨m, h0⟩, fun m σ' H' w => ?_⟩
  obtain ⟨k, h1, h2, h3⟩ := hs m σ' H' w
  refine h1 H' (Ext.refl H') _ fun H1 e1 => ?_
  cases k with
  | true =>
    rw [if_pos rfl]
    exact ⟨_, fun s h q => q, h2 rfl H1 e1⟩
  | false =>
    rw [if_neg Bool.false_ne_true]
    exact h3 rfl H1 e1
theorem rd_start {t : TS} {N : List Str} {vs : List V} (σ' : L2.St) (h : t D σ' H) (e : start N vs = σ' := by rfl) : t D (start N vs) H := e ▸ h
theorem rd_start' {t : TS} {σ : L2.St} (σ' : L2.St) (h : t D σ' H) (e : σ = σ' := by rfl) : t D σ H := e ▸ h
theorem q_seq {t u : TS} (h : t { D with nx := u D } σ H) : tSeq t u D σ H := h
theorem st_if1 {t : TT} {k : Bool} {tu tw : TS} (h : EdT t σ H k) (hk : k = true := by assumption) (h1 : ∀ H1, Ext H H1 → tu D σ H1) : tIfS t tu tw D σ H := st_if h (fun _ => h1) fun q => by rw [hk] at q; cases q
theorem st_if0 {t : TT} {k : Bool} {tu tw : TS} (h : EdT t σ H k) (hk : k = false := by assumption) (h1 : ∀ H1, Ext H H1 → tw D σ H1) : tIfS t tu tw D σ H := st_if h (fun q => by rw [hk] at q; cases q) fun _ => h1
/-- two names at once -/
theorem st_par {i j : Nat} (h1 : Ed K ta σ H a) (h2 : Ed K tb σ H b) (k : ∀ x y H1, Ext H H1 → Im K H1 x a → Im K H1 y b → D.nx ((σ.set i (some x)).set j (some y)) H1) : tPar i j (tCons ta (tCons tb tNil)) D σ H := h1 H (Ext.refl H) _ fun x H1 e1 hx => h2 H1 e1 _ fun y H2 e2 hy =>
  ⟨x, y, rfl, k x y H2 (e1.trans e2) (hx.to e2.kp) hy⟩
theorem st_parL {i j : Nat} (h1 : EdN K ta σ H ds) (h2 : Ed K tb σ H b) (k : ∀ l y H1, Ext H H1 → H l = none → LsM K H1 l ds → Im K H1 y b → D.nx ((σ.set i (some (.ref l))).set j (some y)) H1) : tPar i j (tCons ta (tCons tb tNil)) D σ H := h1 H (Ext.refl H) _ fun l H1 e1 hl hx => h2 H1 e1 _ fun y H2 e2 hy =>
  ⟨_, y, rfl, k l y H2 (e1.trans e2) hl (hx.to e2) hy⟩
end
end K29
set_option Elab.async false
set_option linter.all false
set_option maxRecDepth 100000
set_option maxHeartbeats 4000000
/-! machines, tables, lives: plain, and as data -/
namespace K29
open PySem PySem.Spec PyProof.Rows L2
abbrev Wd := Option Str
abbrev Mach := List (List (Nat × Wd))
abbrev Tbl := List (List (List Nat))
abbrev Life := List Nat
def eN (n : Nat) : Dt := .int (n : Int)
def eL (l : List Nat) : Dt := .tup (l.map eN)
def eW : Wd → Dt
  | none => .non
  | some s => .str s
def eO (o : Nat × Wd) : Dt := .tup [eN o.1, eW o.2]
def eSt (st : List (Nat × Wd)) : Dt := .tup (st.map eO)
def eM (M : Mach) : Dt := .tup (M.map eSt)
def eRs (r : List (List Nat)) : Dt := .tup (r.map eL)
def eT (T : Tbl) : Dt := .tup (T.map eRs)
theorem eN_inj {a b : Nat} : eN a = eN b ↔ a = b := by
  simp only [eN, Dt.int.injEq]
  omega
theorem map_inj {α β : Type} {f : α → β} (hf : ∀ a b, f a = f b ↔ a = b) : ∀ {xs ys : List α}, xs.map f = ys.map f ↔ xs = ys
  | [], [] => by simp
  | [], _ :: _ => by simp
  | _ :: _, [] => by simp
  | x :: xs, y :: ys => by simp only [List.map_cons, List.cons.injEq, hf, map_inj hf]
theorem eL_inj {a b : List Nat} : eL a = eL b ↔ a = b := by
  simp only [eL, Dt.tup.injEq]
  exact map_inj fun _ _ => eN_inj
theorem eW_inj {a b : Wd} : eW a = eW b ↔ a = b := by
  cases a <;> cases b <;> simp [eW]
theorem ok_eN {n k : Nat} : ok k (eN n) = true := by simp [eN, ok]
theorem ok_int {k : Nat} {i : Int} : ok k (.int i) = true := by simp [ok]
theorem ok_non {k : Nat} : ok k .non = true := by simp [ok]
theorem ok_eL {l : List Nat} {k : Nat} (h : 1 ≤ k := by decide) : ok k (eL l) = true := by
  obtain ⟨j, rfl⟩ : ∃ j, k = j + 1 := ⟨k - 1, by omega⟩
  refine ok_tup fun d hd => ?_
  obtain ⟨n, _, rfl⟩ := List.mem_map.mp hd
  exact ok_eN
/-- a word that a machine may say -/
def WdOk (w : Wd) : Prop := ∀ s, w = some s → PyData.strOk s = true ∧ 1 ≤ s.length ∧ s.length ≤ 8 ∧ s ≠ "" ∧ ∀ c ∈ s.cps.toList, c ∈ ("abcdefghijklmnopqrstuvwxyz" : Str).cps.toList
theorem ok_eW {w : Wd} {k : Nat} (h : WdOk w) : ok k (eW w) = true := by
  cases w with
  | none => simp [eW, ok]
  | some s =>
    simp only [eW, ok]
    exact (h s rfl).1
/-- the option's place and word -/
def opt (M : Mach) (s o : Nat) : Option (Nat × Wd) := (M[s]?).bind fun st => st[o]?
/-- the states to which a tuple of options comes -/
def way (M : Mach) : Nat → Life → Option (List Nat)
  | s, [] => some [s]
  | s, o :: l => (opt M s o).bind fun p => (way M p.1 l).map (s :: ·)
/-- the state behind -/
def go (M : Mach) : Nat → Life → Option Nat
  | s, [] => some s
  | s, o :: l => (opt M s o).bind fun p => go M p.1 l
theorem way_go {M : Mach} : ∀ {s : Nat} {l : Life} {w : List Nat}, way M s l = some w → w ≠ [] ∧ w.getLast? = go M s l
  | s, [], w, h => by
    simp only [way, Option.some.injEq] at h
    subst h
    simp [go]
  | s, o :: l, w, h => by
    simp only [way, go] at h ⊢
    cases e : opt M s o with
    | none =>
      rw [e] at h
      cases h
    | some p =>
      rw [e] at h
      simp only [Option.bind_some, Option.map_eq_some_iff] at h ⊢
      obtain ⟨v, h1, rfl⟩ := h
      obtain ⟨q1, q2⟩ := way_go h1
      refine ⟨by simp, ?_⟩
      rw [← q2]
      cases v with
      | nil => exact absurd rfl q1
      | cons a v => simp [List.getLast?_cons]
theorem go_way {M : Mach} : ∀ {s : Nat} {l : Life} {t : Nat}, go M s l = some t → ∃ w, way M s l = some w
  | s, [], t, h => ⟨[s], rfl⟩
  | s, o :: l, t, h => by
    simp only [way, go] at h ⊢
    cases e : opt M s o with
    | none =>
      rw [e] at h
      cases h
    | some p =>
      rw [e] at h
      obtain ⟨w, hw⟩ := go_way (show go M p.1 l = some t from h)
      exact ⟨s :: w, by simp [hw]⟩
theorem go_append {M : Mach} : ∀ {s : Nat} {l m : Life}, go M s (l ++ m) = (go M s l).bind fun t => go M t m
  | s, [], m => rfl
  | s, o :: l, m => by
    simp only [List.cons_append, go]
    cases opt M s o with
    | none => rfl
    | some p => exact go_append
/-- the last option's place and word -/
def lastOpt (M : Mach) (l : Life) (o : Nat) : Option (Nat × Wd) := (go M 0 l).bind fun s => opt M s o
/-- the word of a life -/
def wordOf (M : Mach) (l : Life) : Option Wd := match l.reverse with
  | [] => some none
  | o :: r => (lastOpt M r.reverse o).map (·.2)
/-- the row of a life's last option -/
def rowOf (M : Mach) (T : Tbl) (l : Life) : Option (List Nat) := match l.reverse with
  | [] => none
  | o :: r => (go M 0 r.reverse).bind fun s => (T[s]?).bind fun rs => rs[o]?
theorem wordOf_nil {M : Mach} : wordOf M [] = some none := rfl
theorem wordOf_snoc {M : Mach} {l : Life} {o : Nat} : wordOf M (l ++ [o]) = (lastOpt M l o).map (·.2) := by
  unfold wordOf
  rw [List.reverse_append]
  simp
theorem rowOf_snoc {M : Mach} {T : Tbl} {l : Life} {o : Nat} : rowOf M T (l ++ [o]) = (go M 0 l).bind fun s => (T[s]?).bind fun rs => rs[o]? := by
  unfold rowOf
  rw [List.reverse_append]
  simp
/-! places in encoded data -/
theorem at_nat {α : Type} {xs : List α} {i : Nat} {x : α} (h : xs[i]? = some x) : atI xs (i : Int) = some x := atI_nat h
theorem at_map {α : Type} {f : α → Dt} {xs : List α} {i : Nat} {x : α} (h : xs[i]? = some x) : atI (xs.map f) (i : Int) = some (f x) := atI_nat (by rw [List.getElem?_map, h]; rfl)
theorem at_last {α : Type} {xs : List α} {x : α} (h : xs.getLast? = some x) : atI xs (-1) = some x := by
  obtain ⟨ys, rfl⟩ := List.getLast?_eq_some_iff.mp h
  exact atI_last ys x
theorem at_lastm {α : Type} {f : α → Dt} {xs : List α} {x : α} (h : xs.getLast? = some x) : atI (xs.map f) (-1) = some (f x) := at_last (by rw [List.getLast?_map, h]; rfl)
theorem cut_init {α : Type} {xs : List α} {x : α} : cutD (xs ++ [x]) none (some (-1)) = xs := by
  unfold cutD HT.sIx
  simp only [List.length_append, List.length_cons, List.length_nil]
  rw [if_pos (by decide)]
  have e : ((-1 : Int) + ((xs.length + (0 + 1) : Nat) : Int)).toNat = xs.length := by omega
  rw [e]
  simp
theorem cut_take {α : Type} {xs : List α} {n : Nat} (h : n ≤ xs.length) : cutD xs none (some (n : Int)) = xs.take n := by
  unfold cutD
  rw [HT.sIx_none, HT.sIx_nat, Nat.min_eq_left h, List.drop_zero, Nat.sub_zero]
theorem cut_drop {α : Type} {xs : List α} {n : Nat} (h : n ≤ xs.length) : cutD xs (some (n : Int)) none = xs.drop n := by
  unfold cutD
  rw [HT.sIx_none, HT.sIx_nat, Nat.min_eq_left h, List.take_of_length_le (by simp)]
section
variable {K : PySem.W.Frag} {H H' H0 H1 H2 : Hp} {σ : L2.St} {te tb : TE} {ds : List Dt} {d : Dt}
/-- l[:-1] -/
theorem ed_initL {l : List Nat} {o : Nat} (h : Ed K te σ H (eL (l ++ [o]))) : Ed K (tSl (rSlX K) te tNoPart (tPart (tUn (rU fun i => .int (-i)) (tC (.int 1))))) σ H (eL l) := by
  have e : cutD ((l ++ [o]).map eN) none (some (-1)) = l.map eN := by
    rw [List.map_append]
    exact cut_init
  have q := ed_sl h eo_none (eo_some (K := K) (ed_neg (ed_int (i := 1))))
  rw [e] at q
  exact q
/-- l[-1] -/
theorem ed_lastL {l : List Nat} {o : Nat} (h : Ed K te σ H (eL (l ++ [o]))) : Ed K (tOp (rIx K) te (tUn (rU fun i => .int (-i)) (tC (.int 1)))) σ H (eN o) := ed_op h (ed_neg ed_int) (rd_ix (at_lastm (by simp)))
/-- l[:n] -/
theorem ed_takeL {l : List Nat} {n : Nat} (h : Ed K te σ H (eL l)) (hn : n ≤ l.length) (hb : Ed K tb σ H (.int n)) : Ed K (tSl (rSlX K) te tNoPart (tPart tb)) σ H (eL (l.take n)) := by
  have e : cutD (l.map eN) none (some (n : Int)) = (l.take n).map eN := by
    rw [cut_take (by rw [List.length_map]; exact hn), List.map_take]
  have q := ed_sl h eo_none (eo_some hb)
  rw [e] at q
  exact q
end
end K29
set_option Elab.async false
set_option linter.all false
set_option maxRecDepth 100000
set_option maxHeartbeats 4000000
/-! numbers, ways, rows -/
namespace K29
open PySem PySem.Spec PyProof.Rows L2
local macro_rules | `(tactic| walk_at "kp") => `(tactic| first | exact Kp.refl _ | assumption | exact Chg.kp (by assumption) | (refine Kp.trans ?_ (Chg.kp (by assumption)); walk_at "kp"))
local macro_rules | `(tactic| walk_at "ext") => `(tactic| first | exact Ext.refl _ | assumption | (refine Ext.trans ?_ (by assumption); walk_at "ext"))

theorem nil_or_snoc {α : Type} (l : List α) : l = [] ∨ ∃ m a, l = m ++ [a] := by
  rcases List.eq_nil_or_concat l with h | ⟨m, a, h⟩
  · exact .inl h
  · exact .inr ⟨m, a, by rw [h, List.concat_eq_append]⟩
section
variable {P : Program} {w : World} {K : PySem.W.Frag} {mg : Str → Option Value} {base : Heap}
def R_is_number (ds : List Dt) (d : Dt) : Prop := ∃ n lo hi : Int, ds = [.int n, .int lo, .int hi] ∧ d = .bl (decide (lo ≤ n) && decide (n ≤ hi))
theorem sc_is_number : FnScope ["value", "low", "high"] ["value", "low", "high"] (defScope s_is_number) := ⟨rfl, rfl, rfl, by decide +kernel, rfl, by decide +kernel, by decide +kernel⟩
theorem ok_is_number (T : Txt w K mg base) : Ok P w K mg base 1 ("is_number", none) ["value", "low", "high"] (SpF K (TL K) R_is_number) := by
  refine ok_of (k := 0) T.f_is_number sc_is_number (fun vs H Q E h => ?_) (fun _ _ _ _ _ _ us hl => match us, hl with | [_, _, _], _ => rfl) (fun cdv A outer s H vs Q E hr h => ?_)
  · obtain ⟨ds, d, hi, _, ⟨n, lo, hi', rfl, _⟩, _⟩ := h
    exact hi.length
  · obtain ⟨ds, d, hi, hT, ⟨n, lo, hi', rfl, rfl⟩, hQ⟩ := h
    cases hi with | cons h1 hi => cases hi with | cons h2 hi => cases hi with | cons h3 hi =>
    cases hi
    refine ⟨_, (pss_one (ps_ret (pe_and (pe_callB call_isiX (by rfl) T.g_isinstance (by decide +kernel) (pa_cons (pv 0) (pa_cons (pe_gty (T := "int") (by rfl) T.g_int) pa_nil))) (pe_and (pe_not (pe_callB call_isiX (by rfl) T.g_isinstance (by decide +kernel) (pa_cons (pv 0) (pa_cons (pe_gty (T := "bool") (by rfl) T.g_bool) pa_nil)))) (pe_one (pe_chain op_leX op_leX (pv 1) (pv 0) (pv 2))))))), ?_⟩
    dsimp only [cxOf, Cx.nox, Cx.wish]
    refine st_ret (Ed.is (ed_andV (ed_isi (ed_v h1) (by rfl)) fun _ => ed_andV (ed_notV (ed_isi (ed_v h1) (by rfl))) fun _ => ed_chainLe (ed_v h2) (ed_v h1) (ed_v h3)) ?_) hQ
    rfl
/-- the states of a life, as a list -/
def R_way_of (ds : List Dt) (es : List Dt) : Prop := ∃ (M : Mach) (l : Life) (v : List Nat), ds = [eM M, eL l] ∧ l.length ≤ 1000 ∧ way M 0 l = some v ∧ es = v.map eN
theorem sc_way_of : FnScope ["machine", "life", "found", "option", "state"] ["machine", "life"] (defScope s_way_of) := ⟨rfl, rfl, rfl, by decide +kernel, rfl, by decide +kernel, by decide +kernel⟩
theorem ok_way_of (T : Txt w K mg base) : Ok P w K mg base 2 ("way_of", none) ["machine", "life"] (SpG K (TL K) R_way_of) := by
  obtain ⟨⟨fd_is_number, F_is_number, b_is_number⟩, k_is_number⟩ := ok_is_number (P := P) T
  refine ok_of (k := 1) T.f_way_of sc_way_of (fun vs H Q E h => ?_) (fun _ _ _ _ _ _ us hl => match us, hl with | [_, _], _ => rfl) (fun cdv A outer s H vs Q E hr h => ?_)
  · obtain ⟨ds, d, hi, _, ⟨M, l, v, rfl, _⟩, _⟩ := h
    exact hi.length
  · obtain ⟨ds, d, hi, hT, ⟨M, l, v, rfl, hz, hv, rfl⟩, hQ⟩ := h
    cases hi with | cons h1 hi => cases hi with | cons h2 hi =>
    cases hi
    rename_i vM vl
    refine ⟨_, (pss_cons (ps_set (i := 2) sc_way_of.nd rfl (Or.inl rfl) (pe_lst (pa_cons pe_int pa_nil)))
      (pss_cons (ps_for PassesOwn.never rfl (pi_tup (pv 1)) (pg_name (i := 3) sc_way_of.nd rfl (Or.inl rfl))
        (pss_cons (ps_set (i := 4) sc_way_of.nd rfl (Or.inl rfl) (pe_ix ix_seq (pv 0) (pe_ix ix_seq (pv 2) (pe_un un_neg pe_int) (fun _ _ => rfl)) (fun _ _ => rfl)))
        (pss_cons (ps_if (pt_not (pt_val (pe_call F_is_number (hr.mono (by decide)) (by rfl) T.g_is_number k_is_number b_is_number .nil pass0 (pa_cons (pv 3) (pa_cons pe_int (pa_cons (pe_op op_subX (pe_callB call_lenX (by rfl) T.g_len (by decide +kernel) (pa_cons (pv 4) pa_nil)) pe_int) pa_nil)))))) (pss_one (ps_ret pe_non)) pss_nil)
        (pss_one (ps_expr (pe_bm PySem.F.plainAttrs_list PySem.F.slot_list_append PySem.F.type_list_append mt_append (pv 2) (pa_cons (pe_ix ix_seq (pe_ix ix_seq (pv 4) (pv 3) (fun _ _ => rfl)) pe_int (fun _ _ => rfl)) pa_nil)))))))
      (pss_one (ps_ret (pv 2))))), ?_⟩
    dsimp only [cxOf, Cx.nox, Cx.wish]
    refine rd_start [some vM, some vl, none, none, none] ?_
    refine q_setN (K := K) (en_lst (ea_cons ed_int ea_nil) (by decide)) fun f H1 e1 nf hf => ?_
    refine q_seq (st_forT (ed_v h2) (fun H2 j σ' H' => ∃ (a b : Option V) (xs : List Nat) (s : Nat) (r : List Nat), σ' = [some vM, some vl, some (.ref f), a, b] ∧ Ext H H' ∧ Kp H2 H' ∧ LsM K H' f ((xs ++ [s]).map eN) ∧ way M s (l.drop j) = some r ∧ v = xs ++ r ∧ xs.length ≤ j) ?_ ?_ ?_ ?_)
    · exact fun H2 e2 => ⟨none, none, [], 0, v, rfl, e1.trans e2, Kp.refl _, hf.to e2, hv, rfl, Nat.le_refl _⟩
    · rintro H2 j σ' H' ⟨_, _, _, _, _, _, _, q, _⟩
      exact q
    · rintro H2 j x d σ' H' e2 hd ⟨a, b, xs, s, r, rfl, e3, k3, hf3, hw, hr2, hxs⟩ hx
      rw [List.getElem?_map] at hd
      obtain ⟨o, ho, rfl⟩ := Option.map_eq_some_iff.mp hd
      have hj : j < l.length := (List.getElem?_eq_some_iff.mp ho).1
      have hdr : l.drop j = o :: l.drop (j + 1) := by
        rw [List.drop_eq_getElem_cons hj]
        congr 1
        exact (List.getElem?_eq_some_iff.mp ho).2
      rw [hdr] at hw
      obtain ⟨p, hop, hw⟩ := Option.bind_eq_some_iff.mp (show ((opt M s o).bind fun p => (way M p.1 (l.drop (j + 1))).map (s :: ·)) = some r from hw)
      obtain ⟨r', hw', rfl⟩ := Option.map_eq_some_iff.mp hw
      obtain ⟨st, hst, hop⟩ := Option.bind_eq_some_iff.mp (show ((M[s]?).bind fun st => st[o]?) = some p from hop)
      have ho2 : o < st.length := (List.getElem?_eq_some_iff.mp hop).1
      refine g_nm [some vM, some vl, some (.ref f), some x, b] ?_
      refine q_set (ed_op (ed_v h1) (ed_ixL (el_v hf3) (ed_neg ed_int) (at_lastm (by simp))) (rd_ix (at_map hst))) fun y H4 e4 hy => ?_
      refine q_if (k := false) (EdT.is (et_not (et_B (ed_call (ea_cons (ed_v hx) (ea_cons ed_int (ea_cons (ed_op (ed_lenT (ed_v hy)) ed_int rd_sub) ea_nil))) hT (by walk_at "kp") ⟨_, _, _, rfl, rfl⟩))) ?_) (fun q => by cases q) fun _ H5 e5 => ?_
      · rw [List.length_map, Bool.not_eq_eq_eq_not, Bool.not_false, Bool.and_eq_true, decide_eq_true_eq, decide_eq_true_eq]
        omega
      · refine st_app (hf3.to (e4.trans e5)) ev_v (ed_op (ed_op (ed_v hy) (ed_v hx) (rd_ix (at_map hop))) ed_int (rd_ix (by rfl))) (by simp; omega) fun H6 e6 hf6 => ?_
        refine ⟨_, _, xs ++ [s], p.1, r', rfl, ((e3.trans (e4.trans e5)).chg.trans e6).new nf, by walk_at "kp", ?_, hw', by simp [hr2], by simp; omega⟩
        have e7 : (xs ++ [s]).map eN ++ [eN p.1] = (xs ++ [s] ++ [p.1]).map eN := by simp
        rw [← e7]
        exact hf6
    · rintro H2 σ' H' e2 ⟨a, b, xs, s, r, rfl, e3, k3, hf3, hw, hr2, hxs⟩
      have hr3 : r = [s] := by
        have e7 : (l.map eN).length = l.length := List.length_map ..
        rw [e7, List.drop_length] at hw
        exact (Option.some.inj hw).symm
      subst hr3
      subst hr2
      exact ⟨_, rfl, hQ f H' e3 nf hf3⟩
/-- the state behind a life -/
def R_state_behind (ds : List Dt) (d : Dt) : Prop := ∃ (M : Mach) (l : Life) (s : Nat), ds = [eM M, eL l] ∧ l.length ≤ 1000 ∧ go M 0 l = some s ∧ d = eN s
theorem sc_state_behind : FnScope ["machine", "life"] ["machine", "life"] (defScope s_state_behind) := ⟨rfl, rfl, rfl, by decide +kernel, rfl, by decide +kernel, by decide +kernel⟩
theorem ok_state_behind (T : Txt w K mg base) : Ok P w K mg base 3 ("state_behind", none) ["machine", "life"] (SpF K (TL K) R_state_behind) := by
  obtain ⟨⟨fd_way_of, F_way_of, b_way_of⟩, k_way_of⟩ := ok_way_of (P := P) T
  refine ok_of (k := 2) T.f_state_behind sc_state_behind (fun vs H Q E h => ?_) (fun _ _ _ _ _ _ us hl => match us, hl with | [_, _], _ => rfl) (fun cdv A outer s H vs Q E hr h => ?_)
  · obtain ⟨ds, d, hi, _, ⟨M, l, v, rfl, _⟩, _⟩ := h
    exact hi.length
  · obtain ⟨ds, d, hi, hT, ⟨M, l, s, rfl, hz, hv, rfl⟩, hQ⟩ := h
    cases hi with | cons h1 hi => cases hi with | cons h2 hi =>
    cases hi
    refine ⟨_, (pss_one (ps_ret (pe_ix ix_seq (pe_call F_way_of (hr.mono (by decide)) (by rfl) T.g_way_of k_way_of b_way_of .nil pass0 (pa_cons (pv 0) (pa_cons (pv 1) pa_nil))) (pe_un un_neg pe_int) (fun _ _ => rfl)))), ?_⟩
    dsimp only [cxOf, Cx.nox, Cx.wish]
    obtain ⟨v, hw⟩ := go_way hv
    exact st_ret (ed_ixL (en_call (ea_cons (ed_v h1) (ea_cons (ed_v h2) ea_nil)) hT (by walk_at "kp") ⟨M, l, v, rfl, hz, hw, rfl⟩).l (ed_neg ed_int) (at_lastm ((way_go hw).2.trans hv))) hQ
/-- the word of a life -/
def R_word_of (ds : List Dt) (d : Dt) : Prop := ∃ (M : Mach) (l : Life) (v : Wd), ds = [eM M, eL l] ∧ l.length ≤ 1000 ∧ wordOf M l = some v ∧ d = eW v
theorem sc_word_of : FnScope ["machine", "life"] ["machine", "life"] (defScope s_word_of) := ⟨rfl, rfl, rfl, by decide +kernel, rfl, by decide +kernel, by decide +kernel⟩
theorem ok_word_of (T : Txt w K mg base) : Ok P w K mg base 4 ("word_of", none) ["machine", "life"] (SpF K (TL K) R_word_of) := by
  obtain ⟨⟨fd_state_behind, F_state_behind, b_state_behind⟩, k_state_behind⟩ := ok_state_behind (P := P) T
  refine ok_of (k := 3) T.f_word_of sc_word_of (fun vs H Q E h => ?_) (fun _ _ _ _ _ _ us hl => match us, hl with | [_, _], _ => rfl) (fun cdv A outer s H vs Q E hr h => ?_)
  · obtain ⟨ds, d, hi, _, ⟨M, l, v, rfl, _⟩, _⟩ := h
    exact hi.length
  · obtain ⟨ds, d, hi, hT, ⟨M, l, v, rfl, hz, hv, rfl⟩, hQ⟩ := h
    cases hi with | cons h1 hi => cases hi with | cons h2 hi =>
    cases hi
    rename_i vM vl
    refine ⟨_, (pss_cons (ps_if (pt_cmpR (op_eqD hr.units) (pv 1) (pe_tup pa_nil) (nomark _)) (pss_one (ps_ret pe_non)) pss_nil)
      (pss_one (ps_ret (pe_ix ix_seq (pe_ix ix_seq (pe_ix ix_seq (pv 0) (pe_call F_state_behind (hr.mono (by decide)) (by rfl) T.g_state_behind k_state_behind b_state_behind .nil pass0 (pa_cons (pv 0) (pa_cons (pe_slice sl_X (pv 1) po_none (po_some (pe_un un_neg pe_int))) pa_nil))) (fun _ _ => rfl)) (pe_ix ix_seq (pv 1) (pe_un un_neg pe_int) (fun _ _ => rfl)) (fun _ _ => rfl)) pe_int (fun _ _ => rfl))))), ?_⟩
    dsimp only [cxOf, Cx.nox, Cx.wish]
    refine rd_start [some vM, some vl] ?_
    rcases nil_or_snoc l with rfl | ⟨l', o, rfl⟩
    · cases hv
      refine q_if (k := true) (et_test (ed_op (ed_v h2) (ed_tup ea_nil (by decide)) (rd_eq (n := 1) ok_eL (m := 1) (by rfl) ?_))) (fun _ H1 e1 => st_ret (K := K) ed_non fun v H2 e2 hv => hQ v H2 (e1.trans e2) hv) fun q => by cases q
      exact ⟨fun _ => rfl, fun _ => rfl⟩
    · refine q_if (k := false) (et_test (ed_op (ed_v h2) (ed_tup ea_nil (by decide)) (rd_eq (n := 1) ok_eL (m := 1) (by rfl) ?_))) (fun q => by cases q) fun _ H1 e1 => ?_
      · constructor
        · intro q
          cases q
        · intro q
          simp [eL] at q
      · rw [wordOf_snoc] at hv
        obtain ⟨p, hp, rfl⟩ := Option.map_eq_some_iff.mp hv
        obtain ⟨s, hs, hop⟩ := Option.bind_eq_some_iff.mp (show ((go M 0 l').bind fun s => opt M s o) = some p from hp)
        obtain ⟨st, hst, hop⟩ := Option.bind_eq_some_iff.mp (show ((M[s]?).bind fun st => st[o]?) = some p from hop)
        have hz' : l'.length ≤ 1000 := by
          rw [List.length_append] at hz
          omega
        refine st_ret (ed_op (ed_op (ed_op (ed_v h1) (ed_call (ea_cons (ed_v h1) (ea_cons (ed_initL (ed_v h2)) ea_nil)) hT (by walk_at "kp") ⟨M, l', s, rfl, hz', hs, rfl⟩) (rd_ix (at_map hst)))
          (ed_lastL (ed_v h2)) (rd_ix (at_map hop))) ed_int (rd_ix (by rfl))) fun v H2 e2 hv => hQ v H2 (e1.trans e2) hv
/-- the row of a life's last option -/
def R_row_of (ds : List Dt) (d : Dt) : Prop := ∃ (M : Mach) (G : Tbl) (l : Life) (r : List Nat), ds = [eM M, eT G, eL l] ∧ l.length ≤ 1000 ∧ rowOf M G l = some r ∧ d = eL r
theorem sc_row_of : FnScope ["machine", "table", "life"] ["machine", "table", "life"] (defScope s_row_of) := ⟨rfl, rfl, rfl, by decide +kernel, rfl, by decide +kernel, by decide +kernel⟩
theorem ok_row_of (T : Txt w K mg base) : Ok P w K mg base 4 ("row_of", none) ["machine", "table", "life"] (SpF K (TL K) R_row_of) := by
  obtain ⟨⟨fd_state_behind, F_state_behind, b_state_behind⟩, k_state_behind⟩ := ok_state_behind (P := P) T
  refine ok_of (k := 3) T.f_row_of sc_row_of (fun vs H Q E h => ?_) (fun _ _ _ _ _ _ us hl => match us, hl with | [_, _, _], _ => rfl) (fun cdv A outer s H vs Q E hr h => ?_)
  · obtain ⟨ds, d, hi, _, ⟨M, T, l, v, rfl, _⟩, _⟩ := h
    exact hi.length
  · obtain ⟨ds, d, hi, hT, ⟨M, G, l, r, rfl, hz, hv, rfl⟩, hQ⟩ := h
    cases hi with | cons h1 hi => cases hi with | cons h2 hi => cases hi with | cons h3 hi =>
    cases hi
    rename_i vM vT vl
    refine ⟨_, (pss_one (ps_ret (pe_ix ix_seq (pe_ix ix_seq (pv 1) (pe_call F_state_behind (hr.mono (by decide)) (by rfl) T.g_state_behind k_state_behind b_state_behind .nil pass0 (pa_cons (pv 0) (pa_cons (pe_slice sl_X (pv 2) po_none (po_some (pe_un un_neg pe_int))) pa_nil))) (fun _ _ => rfl)) (pe_ix ix_seq (pv 2) (pe_un un_neg pe_int) (fun _ _ => rfl)) (fun _ _ => rfl)))), ?_⟩
    dsimp only [cxOf, Cx.nox, Cx.wish]
    refine rd_start [some vM, some vT, some vl] ?_
    rcases nil_or_snoc l with rfl | ⟨l', o, rfl⟩
    · cases hv
    · rw [rowOf_snoc] at hv
      obtain ⟨s, hs, hop⟩ := Option.bind_eq_some_iff.mp hv
      obtain ⟨st, hst, hop⟩ := Option.bind_eq_some_iff.mp hop
      have hz' : l'.length ≤ 1000 := by
        rw [List.length_append] at hz
        omega
      exact st_ret (ed_op (ed_op (ed_v h2) (ed_call (ea_cons (ed_v h1) (ea_cons (ed_initL (ed_v h3)) ea_nil)) hT (by walk_at "kp") ⟨M, l', s, rfl, hz', hs, rfl⟩) (rd_ix (at_map hst)))
          (ed_lastL (ed_v h3)) (rd_ix (at_map hop))) hQ
end
end K29
set_option Elab.async false
set_option linter.all false
set_option maxRecDepth 100000
set_option maxHeartbeats 4000000
/-! any, all of a generator expression whose element may call defs -/
namespace K29
open PySem PySem.Spec PyProof.Rows L2 GxR
open Sem (wp)
/-! ### any, all over a walk by states -/
section
variable {prog : Program} {w : World} {A : Around} {R : Result → Shared → Prop} {I : Addr} {n : Nat} {tr : Nat → Bool} {St Dn : Nat → Shared → Prop}
structure WalkJ (prog : Program) (w : World) (A : Around) (I : Addr) (n : Nat) (tr : Nat → Bool) (St Dn : Nat → Shared → Prop) : Prop where
  item : ∀ i (s : Shared) (Q : Option Value → Shared → Prop) (E : Value → Shared → Prop), i < n → St i s → (∀ s', St (i + 1) s' → Q (some (.bool (tr i))) s') → wpAny (model prog w) A (pyNext (.ref I)) Q E s
  done : ∀ (s : Shared) (Q : Option Value → Shared → Prop) (E : Value → Shared → Prop), St n s → (∀ s', Dn n s' → Q none s') → wpAny (model prog w) A (pyNext (.ref I)) Q E s
  self : ∀ i (s : Shared) (Q : Value → Shared → Prop) (E : Value → Shared → Prop), St i s → Q (.ref I) s → wpAny (model prog w) A (pyIter (.ref I)) Q E s
theorem any_loopJ (W : WalkJ prog w A.in1 I n tr St Dn) : ∀ (k i : Nat) (s : Shared), n - i = k → i ≤ n → St i s →
    (∀ j s', i ≤ j → j < n → (∀ m, i ≤ m → m < j → tr m = false) → tr j = true → St (j + 1) s' → R (.ok (.ret (.bool true))) s') →
    (∀ s', (∀ m, i ≤ m → m < n → tr m = false) → Dn n s' → R (.ok (.ret (.bool false))) s') → codeAny (model prog w) A (.builtin "any.loop" ⟨[.ref I], []⟩) R s := by
  intro k
  induction k with
  | zero =>
    intro i s hk hi hst h1 h2
    obtain rfl : i = n := by omega
    refine codeAny_builtin F.entry_any_loop ?_
    rw [Around.under_plainId F.plain_any_loop _]
    show wpAny _ A.in1 (pyNext (.ref I) >>= _) _ _ s
    refine wpAny_bind (W.done s _ _ hst fun s' hd => ?_)
    exact wpAny_bind (wpAny_rule (wpAny_pure (h2 s' (fun m a b => by omega) hd)))
  | succ k ih =>
    intro i s hk hi hst h1 h2
    have hlt : i < n := by omega
    refine codeAny_builtin F.entry_any_loop ?_
    rw [Around.under_plainId F.plain_any_loop _]
    show wpAny _ A.in1 (pyNext (.ref I) >>= _) _ _ s
    refine wpAny_bind (W.item i s _ _ hlt hst fun s' hst' => ?_)
    refine wpAny_bind (wpAny_holding (wpAny_truthy_bool ?_))
    refine wpAny_bind (wpAny_letGo ?_)
    cases hb : tr i with
    | true =>
      simp only [if_true]
      exact wpAny_bind (wpAny_rule (wpAny_pure (h1 i s' (Nat.le_refl _) hlt (fun m a b => by omega) hb hst')))
    | false =>
      simp only [Bool.false_eq_true, if_false]
      refine wpAny_pure ⟨plainId_quiet F.plain_any_loop _, ih (i + 1) s' (by omega) hlt hst' (fun j s'' a b c d e => ?_) fun s'' c d => ?_⟩
      · exact h1 j s'' (by omega) b (fun m m1 m2 => by
          by_cases z : m = i
          · rw [z]
            exact hb
          · exact c m (by omega) m2) d e
      · exact h2 s'' (fun m m1 m2 => by
          by_cases z : m = i
          · rw [z]
            exact hb
          · exact c m (by omega) m2) d
theorem all_loopJ (W : WalkJ prog w A.in1 I n tr St Dn) : ∀ (k i : Nat) (s : Shared), n - i = k → i ≤ n → St i s →
    (∀ j s', i ≤ j → j < n → (∀ m, i ≤ m → m < j → tr m = true) → tr j = false → St (j + 1) s' → R (.ok (.ret (.bool false))) s') →
    (∀ s', (∀ m, i ≤ m → m < n → tr m = true) → Dn n s' → R (.ok (.ret (.bool true))) s') → codeAny (model prog w) A (.builtin "all.loop" ⟨[.ref I], []⟩) R s := by
  intro k
  induction k with
  | zero =>
    intro i s hk hi hst h1 h2
    obtain rfl : i = n := by omega
    refine codeAny_builtin F.entry_all_loop ?_
    rw [Around.under_plainId F.plain_all_loop _]
    show wpAny _ A.in1 (pyNext (.ref I) >>= _) _ _ s
    refine wpAny_bind (W.done s _ _ hst fun s' hd => ?_)
    exact wpAny_bind (wpAny_rule (wpAny_pure (h2 s' (fun m a b => by omega) hd)))
  | succ k ih =>
    intro i s hk hi hst h1 h2
    have hlt : i < n := by omega
    refine codeAny_builtin F.entry_all_loop ?_
    rw [Around.under_plainId F.plain_all_loop _]
    show wpAny _ A.in1 (pyNext (.ref I) >>= _) _ _ s
    refine wpAny_bind (W.item i s _ _ hlt hst fun s' hst' => ?_)
    refine wpAny_bind (wpAny_holding (wpAny_truthy_bool ?_))
    refine wpAny_bind (wpAny_letGo ?_)
    cases hb : tr i with
    | false =>
      simp only [Bool.false_eq_true, if_false]
      exact wpAny_bind (wpAny_rule (wpAny_pure (h1 i s' (Nat.le_refl _) hlt (fun m a b => by omega) hb hst')))
    | true =>
      simp only [if_true]
      refine wpAny_pure ⟨plainId_quiet F.plain_all_loop _, ih (i + 1) s' (by omega) hlt hst' (fun j s'' a b c d e => ?_) fun s'' c d => ?_⟩
      · exact h1 j s'' (by omega) b (fun m m1 m2 => by
          by_cases z : m = i
          · rw [z]
            exact hb
          · exact c m (by omega) m2) d e
      · exact h2 s'' (fun m m1 m2 => by
          by_cases z : m = i
          · rw [z]
            exact hb
          · exact c m (by omega) m2) d
variable {x : Value} {Q : Value → Shared → Prop} {E : Value → Shared → Prop} {s : Shared}
theorem call_anyJ (W : WalkJ prog w A.in1 I n tr St Dn) (h0 : St 0 s) (h1 : ∀ j s', j < n → (∀ m, m < j → tr m = false) → tr j = true → St (j + 1) s' → Q (.bool true) s') (h2 : ∀ s', (∀ m, m < n → tr m = false) → Dn n s' → Q (.bool false) s') :
    wpAny (model prog w) A (call (.builtin "any") [.ref I]) Q E s := by
  refine call_function_tree F.kind_any F.plain_any F.entry_any (F.args_any1 _) ?_
  unfold Builtin.«any»
  refine wpAny_bind (m := oneArg "any" _) (wpAny_pure ?_)
  refine wpAny_bind (W.self 0 s _ _ h0 ?_)
  exact wpAny_pure ⟨plainId_quiet F.plain_any_loop _, any_loopJ W n 0 s (Nat.sub_zero _) (Nat.zero_le _) h0 (fun j s' _ a b c d => h1 j s' a (fun m z => b m (Nat.zero_le _) z) c d) fun s' a b => h2 s' (fun m z => a m (Nat.zero_le _) z) b⟩
theorem call_allJ (W : WalkJ prog w A.in1 I n tr St Dn) (h0 : St 0 s) (h1 : ∀ j s', j < n → (∀ m, m < j → tr m = true) → tr j = false → St (j + 1) s' → Q (.bool false) s') (h2 : ∀ s', (∀ m, m < n → tr m = true) → Dn n s' → Q (.bool true) s') :
    wpAny (model prog w) A (call (.builtin "all") [.ref I]) Q E s := by
  refine call_function_tree F.kind_all F.plain_all F.entry_all (F.args_all1 _) ?_
  unfold Builtin.«all»
  refine wpAny_bind (m := oneArg "all" _) (wpAny_pure ?_)
  refine wpAny_bind (W.self 0 s _ _ h0 ?_)
  exact wpAny_pure ⟨plainId_quiet F.plain_all_loop _, all_loopJ W n 0 s (Nat.sub_zero _) (Nat.zero_le _) h0 (fun j s' _ a b c d => h1 j s' a (fun m z => b m (Nat.zero_le _) z) c d) fun s' a b => h2 s' (fun m z => a m (Nat.zero_le _) z) b⟩
end
/-! ### the generator's frame -/
abbrev genX (X : Cx) (s : Shared) (H : Hp) (scope : Scope) (cl : List (Str × Addr)) (C : Addr) (code : Value) (fp : List Addr) (A' : Around) : Cx :=
  { X with A := A', s_0 := s, H_0 := H, env := genEnv scope cl C code builtinsNs X.env, outer := X.stack, stack := genEnv scope cl C code builtinsNs X.env :: X.stack, ex := fp, fn := fun _ => false, calm := true, pn := [], xe := fun _ _ => False }
/-- the state in which the generator stands, its frame laid -/
structure GenLaid (h h5 : Heap) (it : Value) (gobj : Obj) : Prop where
  keep : ∀ b o, h.get? b = some o → h5.get? b = some o
  ns : h5.Ns h.objs.size (fun y => if y = ".0" then some it else none)
  gen : h5.get? (h.objs.size + 1) = some gobj
  nocell : ∀ v, gobj.data ≠ .cell v
section
variable {X : Cx} {pins : List (Addr × Obj)} {σ : L2.St} {H : Hp} {s : Shared}
theorem gen_start {scope : Scope} {own : List (Str × Nat)} {fp : List Addr} {code it : Value} {A' : Around} {h5 : Heap} {gobj : Obj} {gs : Array GenState} {tk : Nat} (I : Inv X pins σ H s) (ok : BlkOk X.N X.env.scope scope own) (hN : X.N.Nodup) (hcell : ∀ y ∈ scope.names, y.2 ≠ .cell)
    (hfp : ∀ b ∈ fp, FpOk X pins H b ∧ b < s.heap.objs.size) (hA : A'.frames = some (genEnv scope (cloFrom X.env.cells scope.names []) s.heap.objs.size code builtinsNs X.env :: X.stack)) (hh : A'.handled = none) (L : GenLaid s.heap h5 it gobj) (hg : AllBare gs) :
    Inv (genX X s H scope (cloFrom X.env.cells scope.names []) s.heap.objs.size code fp A') [(s.heap.objs.size + 1, gobj)] (wipe σ (own.map (·.2))) H { s with gens := gs, toks := tk, heap := h5 } := by
  have hfree : ∀ y ∈ scope.names, y.2 = .free → ∃ c, X.env.cells.lookup y.1 = some c := fun y hy e => by
    rcases ok.free y hy e with k | k
    · exact I.ok.has _ (.inl k)
    · exact I.ok.has _ (.inr k)
  have cm : ∀ {y c}, (y, c) ∈ cloFrom X.env.cells scope.names [] → X.env.cells.lookup y = some c ∧ c < s.heap.objs.size := fun {y c} hm => by
    rcases cloFrom_mem hm with hm | ⟨h1, rfl⟩
    · cases hm
    · obtain ⟨c, hc⟩ := hfree _ h1 rfl
      rw [hc]
      obtain ⟨w, z⟩ := I.cell _ _ hc
      exact ⟨rfl, z.lt⟩
  have cm2 : ∀ {y c}, (cloFrom X.env.cells scope.names []).lookup y = some c → X.env.cells.lookup y = some c ∧ c < s.heap.objs.size := fun e => cm (PySem.mem_of_lookup e)
  have look : ∀ {y}, scope.names.lookup y = some .free → ∃ c, (cloFrom X.env.cells scope.names []).lookup y = some c ∧ X.env.cells.lookup y = some c := fun {y} hl => by
    obtain ⟨c', e'⟩ := mem_lookup (cloFrom_has (cells := X.env.cells) (acc := []) (PySem.mem_of_lookup hl))
    exact ⟨c', e', (cm2 e').1⟩
  have okG : (genX X s H scope (cloFrom X.env.cells scope.names []) s.heap.objs.size code fp A').Ok := by
    refine ⟨I.ok.mod, ok.kind, I.ok.glob, rfl, Nat.le_refl _, fun y z c e1 e2 => I.ok.inj y z c (cm2 e1).1 (cm2 e2).1, fun y hy => ?_, fun y c z e => ?_, fun _ => hh, hA, .inr ⟨rfl, rfl⟩, fun b hb => ⟨Nat.ne_of_lt (hfp b hb).2, fun y c e z => ?_⟩, I.bs, Nat.le_trans I.ok.bsz I.sz, fun b o e hb => ?_, fun b hb z => ?_, I.stack, I.stkFree⟩
    · rcases hy with hy | hy
      · exact absurd rfl (hcell _ (PySem.mem_of_lookup (show scope.names.lookup y = some .cell from hy)))
      · obtain ⟨c, h1, _⟩ := look (show scope.names.lookup y = some .free from hy)
        exact ⟨c, h1⟩
    · cases z
    · exact (hfp b hb).1.2.2.2.2.1 y c (cm2 e).1 z
    · rcases (hfp b hb).1.2.2.2.1 with z | z
      · exact I.ok.noex b o e z
      · exact absurd (Nat.lt_of_lt_of_le (Heap.lt_size e) (Nat.le_trans I.ok.bsz z)) (Nat.lt_irrefl _)
    · rcases List.mem_cons.mp (I.stkSub b z) with z | z
      · exact (hfp b hb).1.2.1 z
      · exact (hfp b hb).1.2.2.1 z
  refine ⟨okG, rfl, hg, Un.kept L.keep, ⟨_, L.ns, fun i y av e1 e2 e3 => ?_⟩, fun y c e => ?_, ?_, fun y c e => ?_, fun p hp => ?_, I.hok.kept L.keep, by rw [wipe_length]; exact I.len⟩
  · obtain ⟨e2, hne⟩ := wipe_some e2
    have hfr : scope.names.lookup y = some .free := by
      have no : ∀ k, scope.names.lookup y = some k → ¬ (k = .local ∨ k = .cell) := fun k e hk => by
        rcases ok.own _ (PySem.mem_of_lookup e) hk with e' | e'
        · obtain ⟨p, hp, hpy⟩ := List.mem_map.mp e'
          have e3 := ok.ix p hp
          have : p.1 = y := hpy
          rw [this] at e3
          exact hne (List.mem_map.mpr ⟨p, hp, nodup_ix hN e3 e1⟩)
        · exact e' (List.mem_of_getElem? e1)
      rcases (show scope.names.lookup y = some .local ∨ scope.names.lookup y = some .cell ∨ scope.names.lookup y = some .free from e3) with e3 | e3 | e3
      · exact absurd (.inl rfl) (no _ e3)
      · exact absurd (.inr rfl) (no _ e3)
      · exact e3
    obtain ⟨m, hn, hl⟩ := I.loc
    have hvis : Vis X.env.scope y := (ok.free _ (PySem.mem_of_lookup hfr) rfl).elim (fun k => .inr (.inl k)) (fun k => .inr (.inr k))
    obtain ⟨w, r, q⟩ := hl i y av e1 e2 hvis
    obtain ⟨c, h1, h2⟩ := look hfr
    refine ⟨w, r, .inr ⟨.inr hfr, c, h1, ?_⟩⟩
    rcases q with ⟨k, _⟩ | ⟨_, c', e', z⟩
    · have k : X.env.scope.names.lookup y = some .local := k
      rcases ok.free _ (PySem.mem_of_lookup hfr) rfl with k' | k' <;> rw [show X.env.scope.names.lookup y = _ from k'] at k <;> cases k
    · rw [h2] at e'
      cases e'
      exact z.keeps L.keep
  · obtain ⟨w, z⟩ := I.cell y c (cm2 e).1
    exact ⟨w, z.keeps L.keep⟩
  · exact I.hok.fresh (Nat.le_refl _)
  · exact I.freeC y c (cm2 e).1
  · rcases List.mem_cons.mp (show p ∈ [(s.heap.objs.size + 1, gobj)] from hp) with rfl | hp
    · refine ⟨L.gen, I.hok.fresh (Nat.le_succ _), Nat.succ_ne_self _, fun z => ?_, L.nocell⟩
      have z' : s.heap.objs.size + 1 ∈ frs X.stack := z
      rcases List.mem_cons.mp (I.stkSub _ z') with z2 | z2
      · exact absurd (Nat.lt_trans I.lt (Nat.lt_succ_self _)) (by show ¬ X.env.locals < s.heap.objs.size + 1; rw [z2]; exact Nat.lt_irrefl _)
      · exact I.nofs (Nat.le_succ _) z2
    · cases hp
end
theorem Inv.same {X : Cx} {pins : List (Addr × Obj)} {σ : L2.St} {H : Hp} {s s' : Shared} (I : Inv X pins σ H s) (h : s'.heap = s.heap) (o : s'.os = s.os) (g : AllBare s'.gens) : Inv X pins σ H s' := by
  obtain ⟨h1, g1, d1, t1, o1⟩ := s'
  have h : h1 = s.heap := h
  subst h
  exact ⟨I.ok, o.trans I.os, g, I.base, I.loc, I.cell, I.free, I.freeC, I.pin, I.hok, I.len⟩
/-- while the generator sleeps nothing but the generators' states may change -/
structure Rest (s s' : Shared) : Prop where
  heap : s'.heap = s.heap
  os : s'.os = s.os
  bare : AllBare s'.gens
/-- ahead of the i-th turn -/
def GI (X : Cx) (gp : List (Addr × Obj)) (σ0 : L2.St) (fp : List Addr) (tn : Nat → Heap → Prop) (W : Nat → Hp → Prop) (i : Nat) (s : Shared) : Prop :=
  ∃ H, Inv X gp σ0 H s ∧ tn i s.heap ∧ (∀ b ∈ fp, H b = none) ∧ W i H
theorem GI.rest {X : Cx} {gp : List (Addr × Obj)} {σ0 : L2.St} {fp : List Addr} {tn : Nat → Heap → Prop} {W : Nat → Hp → Prop} {i : Nat} {s s' : Shared} (h : GI X gp σ0 fp tn W i s) (r : Rest s s') : GI X gp σ0 fp tn W i s' := by
  obtain ⟨H, I, t, f, w⟩ := h
  exact ⟨H, Inv.same I r.heap r.os r.bare, by rw [r.heap]; exact t, f, w⟩
def GYJ (X : Cx) (gp : List (Addr × Obj)) (σ0 : L2.St) (fp : List Addr) (tn : Nat → Heap → Prop) (W : Nat → Hp → Prop) (n : Nat) (tr : Nat → Bool) : Protocol := fun m _ v s kap =>
  ∃ i, i < n ∧ m + (i + 1) = n ∧ v = .bool (tr i) ∧ GI X gp σ0 fp tn W (i + 1) s ∧ ∀ s', Rest s s' → kap (.send .none) s'
def GEJ (X : Cx) (gp : List (Addr × Obj)) (σ0 : L2.St) (W : Nat → Hp → Prop) (n : Nat) : Nat → Shared → Shared → Prop := fun m _ s => m = 0 ∧ ∃ H, Inv X gp σ0 H s ∧ W n H
section
variable {A : Around} {X : Cx} {gp : List (Addr × Obj)} {σ0 : L2.St} {fp : List Addr} {it : Addr} {tn : Nat → Heap → Prop} {J : It} {W : Nat → Hp → Prop} {n : Nat} {tr : Nat → Bool}
theorem gen_loop {elt tg iter : Expr} {scope : Scope} {pos : Pos} {g : TG} {te : TE} {vs : List Nat} (hX : A.over (.compLoop (.GeneratorExp elt [⟨tg, iter, [], 0⟩] scope pos) 0 (.ref it) .none X.env) [] = X.A) (hc : X.calm = true) (hxe : ∀ e s, X.xe e s → False) (hco : X.env.scope.isCoroutine = false)
    (T : Turn X.prog X.w X.K tg J fp it tn) (f2 : ∀ b ∈ fp, ∀ H : Hp, H b = none → FpOk X gp H b) (hg : PG X tg g) (he : PE X elt te)
    (turn : ∀ i H, i < n → W i H → J.go i H ∧ ∀ x H', J.yld i H x H' → g x σ0 H' fun σ2 H2 => wipe σ2 vs = σ0 ∧ te σ2 H2 fun y H3 => y = .bl (tr i) ∧ W (i + 1) H3) (stop : ∀ H, W n H → J.stop n H) :
    ∀ (k i : Nat) (s₀ s : Shared), n - i = k → i ≤ n → GI X gp σ0 fp tn W i s →
      Seg (model X.prog X.w) A (fun m s₀ r s₁ => r = .ok .next ∧ GEJ X gp σ0 W n m s₀ s₁) (GYJ X gp σ0 fp tn W n tr) (n - i) s₀ (.compLoop (.GeneratorExp elt [⟨tg, iter, [], 0⟩] scope pos) 0 (.ref it) .none X.env)
        ((model X.prog X.w).den (.compLoop (.GeneratorExp elt [⟨tg, iter, [], 0⟩] scope pos) 0 (.ref it) .none X.env)) [] s := by
  have noE : ∀ {α : Type} {t : Sem α} {Q : α → Shared → Prop} {E' : Value → Shared → Prop} {s : Shared}, wpAny (model X.prog X.w) X.A t Q X.xe s → wpAny (model X.prog X.w) X.A t Q E' s := fun h => wpAny_mono h (fun _ _ q => q) fun e s' z => (hxe e s' z).elim
  intro k
  induction k with
  | zero =>
    intro i s₀ s hk hi hst
    obtain rfl : i = n := by omega
    obtain ⟨H, I, t, f, w⟩ := hst
    show Seg _ A _ _ _ s₀ _ ((compTurn (.GeneratorExp elt [⟨tg, iter, [], 0⟩] scope pos) 0 (.ref it) .none X.env).onRaise (leaving X.env)) [] s
    rw [compTurn_gen, Sem.onRaise_eq_wrap]
    refine seg_bind_wrap (wpAny_standAt ?_)
    refine seg_bind_wrap ?_
    rw [hX]
    refine noE (wpAny_mono (T.done X rfl rfl rfl hc i gp s σ0 H X.xe I (fun b hb => f2 b hb H (f b hb)) t (stop H w)) (fun r s1 h => ?_) fun _ _ e => e)
    obtain ⟨rfl, I1⟩ := h
    exact seg_end (.ok .next) ⟨rfl, by omega, H, I1, w⟩
  | succ k ih =>
    intro i s₀ s hk hi hst
    have hlt : i < n := by omega
    obtain ⟨H, I, t, f, w⟩ := hst
    obtain ⟨go, step⟩ := turn i H hlt w
    show Seg _ A _ _ _ s₀ _ ((compTurn (.GeneratorExp elt [⟨tg, iter, [], 0⟩] scope pos) 0 (.ref it) .none X.env).onRaise (leaving X.env)) [] s
    rw [compTurn_gen, Sem.onRaise_eq_wrap]
    refine seg_bind_wrap (wpAny_standAt ?_)
    refine seg_bind_wrap ?_
    rw [hX]
    refine noE (wpAny_mono (T.item X rfl rfl rfl hc i gp s σ0 H X.xe I (fun b hb => f2 b hb H (f b hb)) t go) (fun r s1 h => ?_) fun _ _ e => e)
    obtain ⟨u, rfl, h⟩ := h
    refine seg_bind_wrap ?_
    rw [hX]
    refine noE (wpAny_mono h (fun _ s2 h => ?_) fun _ _ e => e)
    obtain ⟨x, H2, I2, r2, y2, t2, f3⟩ := h
    have I2' := I2.pinned (fun b hb => f2 b hb H2 (f3 b hb)) (T.obj _ _ t2)
    refine seg_bind_wrap ?_
    rw [hX]
    refine noE (wpAny_mono (hg.run _ s2 σ0 H2 x u _ I2' r2 (step x H2 y2)) (fun _ s3 h => ?_) fun _ _ e => e)
    obtain ⟨σ3, H3, I3, hw3, q3⟩ := h
    refine seg_bind_wrap (wpAny_tests_nil ?_)
    simp only [if_true]
    have hy : ∀ v, yieldOut X.env v = yieldValue v := fun v => by simp only [yieldOut, hco, Bool.false_eq_true, if_false]
    simp only [hy]
    rw [Sem.bind_eq_wrap', Sem.bind_eq_wrap', Sem.wrap_wrap, Sem.wrap_wrap]
    refine seg_wrap ?_
    rw [hX]
    refine noE (wpAny_mono (he.run _ s3 σ3 H3 _ I3 q3) (fun v s4 h => ?_) fun _ _ e => e)
    obtain ⟨y, H4, I4, r4, rfl, w4⟩ := h
    cases r4
    have G4 : GI X gp σ0 fp tn W (i + 1) s4 := by
      refine ⟨H4, ?_, T.keep _ _ _ t2 fun b hb o e => (I4.pin (b, o) (List.mem_append_right _ (List.mem_append_right _ (mem_pinsAt hb e)))).1, fun b hb => ?_, w4⟩
      · have I5 := I4.unpinned.weak (σ' := wipe σ3 vs) (wipe_length _ _) (fun j v e => (wipe_some e).1)
        rw [hw3] at I5
        exact I5
      · obtain ⟨o, e, d⟩ := T.obj _ _ t2 b hb
        exact (I4.pin (b, o) (List.mem_append_right _ (List.mem_append_right _ (mem_pinsAt hb e)))).2.1
    have en : n - i = (n - (i + 1)) + 1 := by omega
    rw [en]
    refine seg_at (seg_yield rfl rfl rfl ⟨i, hlt, by omega, rfl, G4, fun s' hs => ?_⟩)
    exact seg_again rfl (ih (i + 1) s' s' (by omega) hlt (G4.rest hs))
/-! ### the walk -/
theorem bare_set {s : Shared} {g : Nat} {x : GenState} (h : AllBare s.gens) (hx : x.bare = true) : AllBare (s.setGen g x).gens := fun y hy => by
  have hy : y ∈ s.gens.setIfInBounds g x := hy
  rcases Array.mem_or_eq_of_mem_setIfInBounds hy with q | q
  · exact h y q
  · rw [q]
    exact hx
theorem setGen_at {s : Shared} {g : Nat} {x : GenState} (h : g < s.gens.size) : (s.setGen g x).gens[g]? = some x := by
  simp [Shared.setGen, h]
/-- the generator sleeps ahead of its i-th turn -/
def GSt (B : Around) (X : Cx) (gp : List (Addr × Obj)) (σ0 : L2.St) (fp : List Addr) (tn : Nat → Heap → Prop) (W : Nat → Hp → Prop) (n : Nat) (tr : Nat → Bool) (g : Nat) (i : Nat) (s : Shared) : Prop :=
  g < s.gens.size ∧ (∃ gs, s.gens[g]? = some gs ∧ ∀ s', Rest s s' → gs.Goes (model X.prog X.w) B (fun m s₀ r s₁ => r = .ok .next ∧ GEJ X gp σ0 W n m s₀ s₁) (GYJ X gp σ0 fp tn W n tr) (n - i) (.send .none) s') ∧ GI X gp σ0 fp tn W i s
def GDn (X : Cx) (gp : List (Addr × Obj)) (σ0 : L2.St) (W : Nat → Hp → Prop) (n : Nat) (s : Shared) : Prop := ∃ H, Inv X gp σ0 H s ∧ W n H
theorem GI.bare {i : Nat} {s : Shared} (h : GI X gp σ0 fp tn W i s) : AllBare s.gens := by
  obtain ⟨H, I, _⟩ := h
  exact I.bare
theorem gen_walk {B : Around} {a : Addr} {g : Nat} {t1 t2 : Str} {k1 k2 : Tok} {k0 : Tok} (hh : B.handled = none) (hroom : B.depth < recursionLimit) :
    WalkJ X.prog X.w B a n tr (GSt B.in1 X [(a, { cls := .type "generator", data := .fields #[.int g 0, .str t1 k1, .str t2 k2] })] σ0 fp tn W n tr g) (fun _ => GDn X [(a, { cls := .type "generator", data := .fields #[.int g 0, .str t1 k1, .str t2 k2] })] σ0 W n) where
  item := fun i s Q E hi st hQ => by
    obtain ⟨hg, ⟨gs, hgs, hgo⟩, G⟩ := st
    obtain ⟨H, I, t, f, w⟩ := _root_.id G
    have isG : s.heap.IsGen a g := ⟨_, _, _, (I.pin _ (List.mem_append_right _ List.mem_cons_self)).1, rfl, rfl, rfl⟩
    refine GenW.wpAny_gsz (Nat.le_refl _) ?_
    refine wpAny_pyNext_genexpQ (P := GEJ X _ σ0 W n) hh I.nolimit hroom isG hgs (hgo _ ⟨rfl, rfl, bare_set I.bare rfl⟩) (fun v s₁ gs' hb hv hsz => ?_) (fun s₁ hp h' hk hsz => ?_)
    · obtain ⟨j, hj, hm, rfl, G1, kap⟩ := hv
      obtain rfl : j = i := by omega
      have hg1 : g < s₁.gens.size := by
        have h1 : (s₁.setGen g gs').gens.size = s₁.gens.size := GenW.setGen_size _ _ _
        omega
      obtain ⟨m, hm2⟩ : ∃ m, n - j = m + 1 := ⟨n - j - 1, by omega⟩
      rw [hm2] at kap
      refine hQ _ ⟨?_, ⟨gs', setGen_at hg1, fun s' hs => ?_⟩, G1.rest ⟨rfl, rfl, bare_set G1.bare hb⟩⟩
      · rw [GenW.setGen_size]
        exact hg1
      · have e : n - (j + 1) = m := by omega
        rw [e]
        exact kap s' ⟨hs.heap, hs.os, hs.bare⟩
    · have := hp.1
      omega
  done := fun s Q E st hQ => by
    obtain ⟨hg, ⟨gs, hgs, hgo⟩, G⟩ := st
    obtain ⟨H, I, t, f, w⟩ := _root_.id G
    have isG : s.heap.IsGen a g := ⟨_, _, _, (I.pin _ (List.mem_append_right _ List.mem_cons_self)).1, rfl, rfl, rfl⟩
    rw [Nat.sub_self] at hgo
    refine wpAny_pyNext_genexpQ (P := GEJ X _ σ0 W n) hh I.nolimit hroom isG hgs (hgo _ ⟨rfl, rfl, bare_set I.bare rfl⟩) (fun v s₁ gs' hb hv => ?_) (fun s₁ hp h' hk => ?_)
    · obtain ⟨j, hj, hm, rfl, G1, kap⟩ := hv
      exact (kap s₁ ⟨rfl, rfl, G1.bare⟩).elim
    · obtain ⟨_, H1, I1, w1⟩ := hp
      exact hQ _ ⟨H1, Inv.same (I1.kept (t' := s₁.toks) hk) rfl rfl (bare_set I1.bare rfl), w1⟩
  self := fun i s Q E st hQ => by
    obtain ⟨hg, _, H, I, _⟩ := st
    exact wpAny_pyIter_gen (g := g) ⟨_, _, _, (I.pin _ (List.mem_append_right _ List.mem_cons_self)).1, rfl, rfl, rfl⟩ hQ
end
/-- behind the generator -/
theorem gen_back {X : Cx} {pins gp : List (Addr × Obj)} {σ σ0 : L2.St} {H H' : Hp} {s s' : Shared} {scope : Scope} {cl : List (Str × Addr)} {C : Addr} {code : Value} {fp : List Addr} {A' : Around} (I : Inv X pins σ H s) (hfp : ∀ b ∈ fp, FpOk X pins H b) (G : Inv (genX X s H scope cl C code fp A') gp σ0 H' s') : Inv X pins σ H' s' := by
  have J := I.call (h' := s'.heap) (g' := s'.gens) (t' := s'.toks) (d' := s'.drawn) (ch := fp) G.base G.hok G.bare fun b hb => ⟨(hfp b hb).2.2.2.1, (hfp b hb).2.1, (hfp b hb).2.2.2.2.1, (hfp b hb).2.2.2.2.2⟩
  rw [sh_eta s s' G.os] at J
  exact J
/-! ### the rule -/
/-- what a generator expression's reading asks, once what it walks is known and the def's table may have grown -/
def GAsk (g : TG) (te : TE) (vs : List Nat) (J : It) (σ : L2.St) (n : Nat) (tr : Nat → Bool) (W : Nat → Hp → Prop) (H : Hp) : Prop :=
  W 0 H ∧ (∀ i H, i < n → W i H → J.go i H ∧ ∀ x H', J.yld i H x H' → g x (wipe σ vs) H' fun σ2 H2 => wipe σ2 vs = wipe σ vs ∧ te σ2 H2 fun y H3 => y = .bl (tr i) ∧ W (i + 1) H3) ∧ ∀ H, W n H → J.stop n H
def tAnyG (P : Addr) (wi : TI) (g : TG) (te : TE) (vs : List Nat) : TE := fun σ H Q => wi σ H fun J H1 => TabG H1 P ∧ ∀ H2, Tabbed P H1 H2 → ∃ (n : Nat) (tr : Nat → Bool) (W : Nat → Hp → Prop), GAsk g te vs J σ n tr W H2 ∧
  (∀ i H3, i < n → (∀ j, j < i → tr j = false) → tr i = true → W (i + 1) H3 → Q (.bl true) H3) ∧ ((∀ j, j < n → tr j = false) → ∀ H3, W n H3 → Q (.bl false) H3)
def tAllG (P : Addr) (wi : TI) (g : TG) (te : TE) (vs : List Nat) : TE := fun σ H Q => wi σ H fun J H1 => TabG H1 P ∧ ∀ H2, Tabbed P H1 H2 → ∃ (n : Nat) (tr : Nat → Bool) (W : Nat → Hp → Prop), GAsk g te vs J σ n tr W H2 ∧
  (∀ i H3, i < n → (∀ j, j < i → tr j = true) → tr i = false → W (i + 1) H3 → Q (.bl false) H3) ∧ ((∀ j, j < n → tr j = true) → ∀ H3, W n H3 → Q (.bl true) H3)
section
variable {X : Cx} {pins : List (Addr × Obj)} {σ : L2.St} {H : Hp} {s : Shared}
/-- the scope of a generator expression -/
structure GScope (scope : Scope) : Prop where
  co : scope.isCoroutine = false
  kind : scope.kind = .function
  cell : ∀ y ∈ scope.names, y.2 ≠ .cell
  dot : scope.names.lookup (".0" : Str) = some NameKind.local
theorem gen_ready {c P : Addr} {elt tg iter : Expr} {gpos : Pos} {scope : Scope} {own : List (Str × Nat)} {wi : TI} {g : TG} {te : TE} {k : Nat} {Q' : Value → Shared → Prop} {R : It → Hp → Prop}
    (hr : Room (k + 1) X.A) (TB : TabB X.base X.mg c P) (hcode : X.env.code = .ref c) (hN : X.N.Nodup) (S : GScope scope) (ok : BlkOk X.N X.env.scope scope own) (hi : PI X tg iter wi)
    (hs : ∀ v, genFold iter X.env v = pure v)
    (hg : ∀ (s : Shared) (H : Hp) (cl : List (Str × Addr)) (C : Addr) (code : Value) (fp : List Addr) (A' : Around), PG (genX X s H scope cl C code fp A') tg g)
    (he : ∀ (s : Shared) (H : Hp) (cl : List (Str × Addr)) (C : Addr) (code : Value) (fp : List Addr) (A' : Around), Room k A' → PE (genX X s H scope cl C code fp A') elt te)
    (I : Inv X pins σ H s) (h : wi σ H fun J H1 => TabG H1 P ∧ ∀ H2, Tabbed P H1 H2 → R J H2)
    (hQ : ∀ (J : It) (H2 : Hp), R J H2 → ∃ (n : Nat) (tr : Nat → Bool) (W : Nat → Hp → Prop), GAsk g te (own.map (·.2)) J σ n tr W H2 ∧
      ∀ (a : Addr) (s5 : Shared) (St Dn : Nat → Shared → Prop), WalkJ X.prog X.w X.A.in1 a n tr St Dn → St 0 s5 → (∀ i s', i ≤ n → St i s' → ∃ H', W i H' ∧ Inv X pins σ H' s') → (∀ s', Dn n s' → ∃ H', W n H' ∧ Inv X pins σ H' s') → Q' (.ref a) s5) :
    wpAny (model X.prog X.w) X.A (eval (.GeneratorExp elt [⟨tg, iter, [], 0⟩] scope gpos) X.env) Q' X.xe s := by
  have hfree : ∀ y ∈ scope.names, y.2 = .free → ∃ c, X.env.cells.lookup y.1 = some c := fun y hy e => by
    rcases ok.free y hy e with k | k
    · exact I.ok.has _ (.inl k)
    · exact I.ok.has _ (.inr k)
  refine wpAny_GeneratorExp_make S.co (closure_ok hfree) S.cell S.dot S.kind (by have := hr.dp; omega) ?_ hs
  refine thn (hi.run pins s σ H _ I h) fun xv s1 h1 => thn h1 fun itv s2 h2 => ?_
  obtain ⟨it, fp, tn, J, H1, rfl, I2, T, st2, f2, ⟨ps, hP, ht⟩, hR⟩ := h2
  refine ⟨I2.nolimit, ?_⟩
  have hPs : s2.heap.get? P = some { cls := .none, data := .fields ps } := I2.hok P _ hP
  have cd : PySem.W.CodeHd s2.heap c P := TB.code.keeps I2.bk
  have fpP : ∀ b ∈ fp, b ≠ P := fun b hb z => by
    have := (f2 b hb).1
    rw [z, hP] at this
    cases this
  have cont : ∀ (code : Value) (h3 : Heap) (tk : Nat) (ps' : Array Value), Heap.ExtBut P s2.heap h3 → s2.heap.objs.size ≤ h3.objs.size → h3.get? P = some { cls := .none, data := .fields ps' } → (∃ more, ps' = ps ++ more) → TriplesOk ps'.toList →
      wpAny (model X.prog X.w) X.A (builtinsFor X.env.globals X.env.builtins) (fun bi s₄ =>
        ∀ h', h'.Ns s₄.heap.objs.size (fun y => if y = ".0" then some (.ref it) else none) → Heap.SameBut s₄.heap.objs.size (s₄.heap.push { cls := .type "frame", data := .dict #[] }) h' →
          Q' (.ref h'.objs.size) { s₄ with
            gens := s₄.gens.push (.fresh (.compStart (.GeneratorExp elt [⟨tg, iter, [], 0⟩] scope gpos) 0 (.ref it) .none (genEnv scope (cloFrom X.env.cells scope.names []) s₄.heap.objs.size code bi X.env))),
            toks := s₄.toks + 1 + 1 + 1,
            heap := h'.push { cls := .type "generator", data := .fields #[.int s₄.gens.size 0, .str "<genexpr>" (s₄.toks + 1), .str (X.env.qual ++ "<genexpr>") (s₄.toks + 1 + 1)] } }) X.xe { s2 with heap := h3, toks := tk } := by
    intro code h3 tk ps' hx hsz hP3 hmore ht3
    obtain ⟨more, em⟩ := hmore
    have I3 := inv_tab (more := more) (h' := h3) (g' := s2.gens) (d' := s2.drawn) (t' := tk) I2 hP (fun b u hb e => hx b u hb e) (by rw [← em]; exact hP3) I2.bare
    have hT2 : Tabbed P H1 (upd H1 P (.tbl (ps ++ more))) := ⟨⟨ps ++ more, upd_same, by rw [← em]; exact ht3⟩, fun b hb => upd_ne hb⟩
    obtain ⟨n, tr, W, ⟨w0, turn, stop⟩, fin⟩ := hQ J _ (hR _ hT2)
    generalize hH2 : upd H1 P (.tbl (ps ++ more)) = H2 at I3 hT2 w0
    have fpH : ∀ b ∈ fp, H2 b = none := fun b hb => by rw [hT2.2 b (fpP b hb)]; exact (f2 b hb).1
    have fpL : ∀ b ∈ fp, b < h3.objs.size := fun b hb => by
      obtain ⟨o, e, _⟩ := T.obj _ _ st2 b hb
      exact Heap.lt_size (hx b o (fpP b hb) e)
    have fpK : ∀ b ∈ fp, FpOk X pins H2 b := fun b hb => ⟨fpH b hb, (f2 b hb).2⟩
    obtain ⟨bm, ob, e1, e2, e3, e4, e5, e6, e7, e8⟩ := TB.bm
    have keep3 : ∀ b u, b ≠ P → s2.heap.get? b = some u → h3.get? b = some u := fun b u hb e => hx b u hb e
    refine wpAny_builtinsFor (m := X.mg) (by rw [I2.ok.glob]; exact (I2.mod.glob.keeps I2.bk).extBut hx TB.gP) e1 e2 (keep3 _ _ e4 (I2.bk _ _ e5)) e6 e7 e8 ?_
    intro h' hn' hs'
    have hsz' : h'.objs.size = h3.objs.size + 1 := by rw [hs'.1, Heap.size_push]
    have keep' : ∀ b o, h3.get? b = some o → h'.get? b = some o := fun b o e => hs'.extBut b o (Nat.ne_of_lt (Heap.lt_size e)) (Heap.get?_push_of_some _ e)
    have L : GenLaid h3 (h'.push { cls := .type "generator", data := .fields #[.int s2.gens.size 0, .str "<genexpr>" (tk + 1), .str (X.env.qual ++ "<genexpr>") (tk + 1 + 1)] }) (.ref it) { cls := .type "generator", data := .fields #[.int s2.gens.size 0, .str "<genexpr>" (tk + 1), .str (X.env.qual ++ "<genexpr>") (tk + 1 + 1)] } :=
      ⟨fun b o e => Heap.get?_push_of_some _ (keep' b o e), hn'.push _, by rw [← hsz']; exact Heap.get?_push_size _ rfl, fun v z => by cases z⟩
    generalize hA' : X.A.in1.in1.over (.compLoop (.GeneratorExp elt [⟨tg, iter, [], 0⟩] scope gpos) 0 (.ref it) .none (genEnv scope (cloFrom X.env.cells scope.names []) h3.objs.size code builtinsNs X.env)) [] = A'
    have hAf : A'.frames = some (genEnv scope (cloFrom X.env.cells scope.names []) h3.objs.size code builtinsNs X.env :: X.stack) := by
      rw [← hA']
      have hf := I.ok.frames
      show pushEnvs [genEnv scope (cloFrom X.env.cells scope.names []) h3.objs.size code builtinsNs X.env] X.A.frames = _
      rw [hf]
      rfl
    have hAh : A'.handled = none := by
      rw [← hA']
      exact hr.hd
    have hAr : Room k A' := by
      rw [← hA']
      exact ⟨hr.hd, by have := hr.dp; show X.A.depth + 1 + 3 * k + 5 < _; omega, by have := hr.un; show X.A.units + 1 + 1 + 3 + 16 * k + 200 < _; omega⟩
    have hlt3 : ∀ b ∈ fp, b ≠ h3.objs.size + 1 := fun b hb z => by
      have h9 := fpL b hb
      rw [z] at h9
      exact absurd (Nat.lt_trans (Nat.lt_succ_self _) h9) (Nat.lt_irrefl _)
    have I5 := gen_start (gs := s2.gens.push (.fresh (.compStart (.GeneratorExp elt [⟨tg, iter, [], 0⟩] scope gpos) 0 (.ref it) .none (genEnv scope (cloFrom X.env.cells scope.names []) h3.objs.size code builtinsNs X.env)))) (tk := tk + 1 + 1 + 1) (code := code) I3 ok hN S.cell (fun b hb => ⟨fpK b hb, fpL b hb⟩) hAf hAh L (I3.bare.push rfl)
    have esz : (h'.objs.size : Nat) = h3.objs.size + 1 := hsz'
    rw [esz]
    have fpG : ∀ b ∈ fp, ∀ H : Hp, H b = none → FpOk (genX X { s2 with heap := h3, toks := tk } H2 scope (cloFrom X.env.cells scope.names []) h3.objs.size code fp A') [(h3.objs.size + 1, { cls := .type "generator", data := .fields #[.int s2.gens.size 0, .str "<genexpr>" (tk + 1), .str (X.env.qual ++ "<genexpr>") (tk + 1 + 1)] })] H b := fun b hb H hH => by
      refine ⟨hH, Nat.ne_of_lt (fpL b hb), fun z => ?_, .inl hb, fun y cc e z => ?_, fun p hp => ?_⟩
      · rcases List.mem_cons.mp (I3.stkSub b z) with z | z
        · exact (fpK b hb).2.1 z
        · exact (fpK b hb).2.2.1 z
      · rcases cloFrom_mem (PySem.mem_of_lookup e) with hm | ⟨h1, hz⟩
        · cases hm
        · obtain ⟨c9, hc9⟩ := hfree _ h1 rfl
          rw [hc9] at hz
          exact (fpK b hb).2.2.2.2.1 y c9 hc9 (hz.symm.trans z)
      · rcases List.mem_cons.mp (show p ∈ [(h3.objs.size + 1, _)] from hp) with rfl | hp
        · exact fun z => hlt3 b hb z.symm
        · cases hp
    have G0 : GI (genX X { s2 with heap := h3, toks := tk } H2 scope (cloFrom X.env.cells scope.names []) h3.objs.size code fp A') _ (wipe σ (own.map (·.2))) fp tn W 0 _ := ⟨H2, I5, T.keep _ _ _ st2 (fun b hb o e => L.keep b o (hx b o (fpP b hb) e)), fpH, w0⟩
    refine fin _ _ _ _ (gen_walk (X := genX X { s2 with heap := h3, toks := tk } H2 scope (cloFrom X.env.cells scope.names []) h3.objs.size code fp A') (B := X.A.in1) (k0 := 0) (g := s2.gens.size) (t1 := "<genexpr>") (k1 := tk + 1) (t2 := X.env.qual ++ "<genexpr>") (k2 := tk + 1 + 1) (σ0 := wipe σ (own.map (·.2))) (fp := fp) (tn := tn) (W := W) hr.hd (by have := hr.dp; show X.A.depth < _; omega))
      ⟨by show s2.gens.size < (s2.gens.push _).size; rw [Array.size_push]; omega, ⟨_, Array.getElem?_push_size .., fun s' hs => ?_⟩, G0⟩ (fun i s' hi hst => ?_) fun s' hst => ?_
    · refine ⟨rfl, ?_⟩
      have loop := gen_loop (A := X.A.in1.in1) (elt := elt) (iter := iter) (scope := scope) (pos := gpos) (vs := own.map (·.2)) (tr := tr) (n := n) (te := te) (g := g) (X := genX X { s2 with heap := h3, toks := tk } H2 scope (cloFrom X.env.cells scope.names []) h3.objs.size code fp A')
        hA' rfl (fun _ _ z => z) S.co T fpG (hg _ _ _ _ _ _ _) (he _ _ _ _ _ _ _ hAr) turn stop n 0 s' s' (Nat.sub_zero _) (Nat.zero_le _) (G0.rest hs)
      show Seg _ _ _ _ _ s' _ ((compStart (.GeneratorExp elt [⟨tg, iter, [], 0⟩] scope gpos) 0 (.ref it) .none (genEnv scope (cloFrom X.env.cells scope.names []) h3.objs.size code builtinsNs X.env)).onRaise (leaving (genEnv scope (cloFrom X.env.cells scope.names []) h3.objs.size code builtinsNs X.env))) [] s'
      unfold compStart
      rw [Sem.onRaise_eq_wrap]
      show Seg _ _ _ _ _ s' _ ((ask >>= _).wrap _ _ _ _) [] s'
      refine seg_bind_wrap (wpAny_askSetting ?_)
      have tn0 : tn 0 s'.heap := by
        obtain ⟨_, _, t9, _⟩ := G0.rest hs
        exact t9
      split
      · exact seg_again rfl loop
      · first
          | exact seg_bind_wrap (wpAny_rule (seg_bind_wrap (wpAny_standAt (seg_bind_wrap (T.self _ 0 s' _ _ tn0 (seg_again rfl loop))))))
          | (refine seg_bind_wrap (wpAny_rule ?_); show Seg _ _ _ _ _ s' _ ((standAt iter.pos >>= _).wrap _ _ _ _) [] s'; exact seg_bind_wrap (wpAny_standAt (seg_bind_wrap (T.self _ 0 s' _ _ tn0 (seg_again rfl loop)))))
    · obtain ⟨_, _, H9, I9, _, _, w9⟩ := hst
      exact ⟨H9, w9, gen_back I3 fpK I9⟩
    · obtain ⟨H9, I9, w9⟩ := hst
      exact ⟨H9, w9, gen_back I3 fpK I9⟩
  cases hf : codeAmong gpos ps.toList with
  | none =>
    refine wpAny_genexprCodeX hcode (cd.code hPs ht) (cd.tab hPs) hf fun c' h' tk hx hge hlt hco' _ htab' _ => ?_
    obtain ⟨o1, vs, f1, tf, fl, tg, inF, tx, tt, op, _, _, _, _, _, _, _, _, _, htr, _⟩ := hco'
    exact cont _ h' tk _ hx (Nat.le_trans hge (Nat.le_of_lt hlt)) htab'.2 ⟨_, rfl⟩ htr
  | some cv =>
    refine wpAny_genexprCode_hit hcode (cd.code hPs ht) hf ?_
    exact cont cv s2.heap s2.toks ps (Heap.ExtBut.refl _ _) (Nat.le_refl _) hPs ⟨#[], by simp⟩ ht
theorem pe_anyG {c P : Addr} {elt tg iter : Expr} {gpos pos p : Pos} {scope : Scope} {own : List (Str × Nat)} {wi : TI} {g : TG} {te : TE} {k : Nat}
    (hr : Room (k + 1) X.A) (hgl : Gl X "any") (hm : X.mg "any" = none) (TB : TabB X.base X.mg c P) (hcode : X.env.code = .ref c) (hN : X.N.Nodup) (S : GScope scope) (ok : BlkOk X.N X.env.scope scope own) (hi : PI X tg iter wi)
    (hg : ∀ (s : Shared) (H : Hp) (cl : List (Str × Addr)) (C : Addr) (code : Value) (fp : List Addr) (A' : Around), PG (genX X s H scope cl C code fp A') tg g)
    (he : ∀ (s : Shared) (H : Hp) (cl : List (Str × Addr)) (C : Addr) (code : Value) (fp : List Addr) (A' : Around), Room k A' → PE (genX X s H scope cl C code fp A') elt te)
    (hs : ∀ v, genFold iter X.env v = pure v := by intro _; rfl)
    (ha : starEach [.GeneratorExp elt [⟨tg, iter, [], 0⟩] scope gpos] X.env = (false, eval (.GeneratorExp elt [⟨tg, iter, [], 0⟩] scope gpos) X.env) :: starEach [] X.env := by rfl) :
    PE X (.Call (.Name "any" p) [.GeneratorExp elt [⟨tg, iter, [], 0⟩] scope gpos] [] pos) (tAnyG P wi g te (own.map (·.2))) := by
  refine ⟨fun pins s σ H Q I h => ?_⟩
  refine wpAny_Call_Name_kw (ld_blt I hgl hm boot_any ?_)
  refine PyProof.Rows.callWith_builtin1 ?_ ha (by rfl)
  rw [ha]
  show wpAny _ _ (spliced ((false, eval (.GeneratorExp elt [⟨tg, iter, [], 0⟩] scope gpos) X.env) :: backTo pos (starEach [] X.env))) _ _ s
  refine Calls.spliced_cons (gen_ready (R := fun J H2 => ∃ (n : Nat) (tr : Nat → Bool) (W : Nat → Hp → Prop), GAsk g te (own.map (·.2)) J σ n tr W H2 ∧
    (∀ i H3, i < n → (∀ j, j < i → tr j = false) → tr i = true → W (i + 1) H3 → Q (.bl true) H3) ∧ ((∀ j, j < n → tr j = false) → ∀ H3, W n H3 → Q (.bl false) H3)) hr TB hcode hN S ok hi hs hg he I h fun J H2 hR => ?_)
  obtain ⟨n, tr, W, hask, q1, q2⟩ := hR
  refine ⟨n, tr, W, hask, fun a s5 St Dn Wk st bk dn => ?_⟩
  refine Calls.spliced_nil ?_
  refine call_anyJ Wk st (fun j s' hj hb ht hst => ?_) fun s' hb hd => ?_
  · obtain ⟨H', w', I'⟩ := bk (j + 1) s' hj hst
    exact ⟨.bl true, H', I', rfl, q1 j H' hj hb ht w'⟩
  · obtain ⟨H', w', I'⟩ := dn s' hd
    exact ⟨.bl false, H', I', rfl, q2 hb H' w'⟩
theorem pe_allG {c P : Addr} {elt tg iter : Expr} {gpos pos p : Pos} {scope : Scope} {own : List (Str × Nat)} {wi : TI} {g : TG} {te : TE} {k : Nat}
    (hr : Room (k + 1) X.A) (hgl : Gl X "all") (hm : X.mg "all" = none) (TB : TabB X.base X.mg c P) (hcode : X.env.code = .ref c) (hN : X.N.Nodup) (S : GScope scope) (ok : BlkOk X.N X.env.scope scope own) (hi : PI X tg iter wi)
    (hg : ∀ (s : Shared) (H : Hp) (cl : List (Str × Addr)) (C : Addr) (code : Value) (fp : List Addr) (A' : Around), PG (genX X s H scope cl C code fp A') tg g)
    (he : ∀ (s : Shared) (H : Hp) (cl : List (Str × Addr)) (C : Addr) (code : Value) (fp : List Addr) (A' : Around), Room k A' → PE (genX X s H scope cl C code fp A') elt te)
    (hb : bootBuiltins "all" = some (.builtin "all") := by decide +kernel) (hs : ∀ v, genFold iter X.env v = pure v := by intro _; rfl)
    (ha : starEach [.GeneratorExp elt [⟨tg, iter, [], 0⟩] scope gpos] X.env = (false, eval (.GeneratorExp elt [⟨tg, iter, [], 0⟩] scope gpos) X.env) :: starEach [] X.env := by rfl) :
    PE X (.Call (.Name "all" p) [.GeneratorExp elt [⟨tg, iter, [], 0⟩] scope gpos] [] pos) (tAllG P wi g te (own.map (·.2))) := by
  refine ⟨fun pins s σ H Q I h => ?_⟩
  refine wpAny_Call_Name_kw (ld_blt I hgl hm hb ?_)
  refine PyProof.Rows.callWith_builtin1 ?_ ha (by rfl)
  rw [ha]
  show wpAny _ _ (spliced ((false, eval (.GeneratorExp elt [⟨tg, iter, [], 0⟩] scope gpos) X.env) :: backTo pos (starEach [] X.env))) _ _ s
  refine Calls.spliced_cons (gen_ready (R := fun J H2 => ∃ (n : Nat) (tr : Nat → Bool) (W : Nat → Hp → Prop), GAsk g te (own.map (·.2)) J σ n tr W H2 ∧
    (∀ i H3, i < n → (∀ j, j < i → tr j = true) → tr i = false → W (i + 1) H3 → Q (.bl false) H3) ∧ ((∀ j, j < n → tr j = true) → ∀ H3, W n H3 → Q (.bl true) H3)) hr TB hcode hN S ok hi hs hg he I h fun J H2 hR => ?_)
  obtain ⟨n, tr, W, hask, q1, q2⟩ := hR
  refine ⟨n, tr, W, hask, fun a s5 St Dn Wk st bk dn => ?_⟩
  refine Calls.spliced_nil ?_
  refine call_allJ Wk st (fun j s' hj hb ht hst => ?_) fun s' hb hd => ?_
  · obtain ⟨H', w', I'⟩ := bk (j + 1) s' hj hst
    exact ⟨.bl false, H', I', rfl, q1 j H' hj hb ht w'⟩
  · obtain ⟨H', w', I'⟩ := dn s' hd
    exact ⟨.bl true, H', I', rfl, q2 hb H' w'⟩
end
end K29
set_option Elab.async false
set_option linter.all false
set_option maxRecDepth 100000
set_option maxHeartbeats 4000000
/-! enumerate of a tuple, walked -/
namespace K29
open PySem PySem.Spec PyProof.Rows L2
theorem meets_enum1 {v : Value} {o : Obj} {H : Heap → Prop} (B : Begins v o H) :
    Meets (Builtin.«enumerate.__new__» ⟨[.type "enumerate", v], []⟩) (fun _ R s => H s.heap ∧
      R (.ok (.ret (.ref (s.heap.push o).objs.size))) { s with heap := (s.heap.push o).push { cls := .type "enumerate", data := .fields #[.none, .bool false, .ref s.heap.objs.size, rawInt 0, .none, .none] } }) :=
  .of_wp fun prog w A R s h => by
    obtain ⟨hp, g, d, tk, os⟩ := s
    obtain ⟨h1, h⟩ := h
    have hsub := sub_enumerate
    have q1 : ∀ {A' : Around} {E : Value → Shared → Prop} {Q : Value → Shared → Prop}, Q (.ref hp.objs.size) ⟨hp.push o, g, d, tk, os⟩ → wpAny (model prog w) A' (pyIter v) Q E ⟨hp, g, d, tk, os⟩ :=
      fun q => B.iter prog w _ _ ⟨hp, g, d, tk, os⟩ _ h1 q
    wp_walk using q1
    refine wpAny_stack_any fun st => wpAny_pure ?_
    split
    · rename_i c _ _ _ _ _
      cases (c == Value.type "enumerate")
      · wp_walk using q1
        exact ⟨_, rfl, h⟩
      · wp_walk using q1
        exact ⟨_, rfl, h⟩
    · wp_walk using q1
      exact ⟨_, rfl, h⟩
section
variable {prog : Program} {w : World} {A : Around} {E : Value → Shared → Prop} {s : Shared}
theorem call_enum1 {v : Value} {o : Obj} {H : Heap → Prop} {Q : Value → Shared → Prop} (B : Begins v o H) (h1 : H s.heap)
    (h : ∀ h', IsEnum h' (s.heap.objs.size + 1) s.heap.objs.size 0 .none → h'.get? s.heap.objs.size = some o → h'.objs.size = s.heap.objs.size + 2 →
      (∀ b o, s.heap.get? b = some o → h'.get? b = some o) → Q (.ref (s.heap.objs.size + 1)) { s with heap := h' }) :
    wpAny (model prog w) A (call (.type "enumerate") [v]) Q E s := by
  refine callType_new F.called_enumerate (by decide) (F.typeCall_enumerate_1 _) (F.newCall_enumerate_1 _) (fun obj => F.args_object_init_2 obj _) F.entry_enumerate_new
    (meets_enum1 B) ⟨h1, ?_⟩
  have hz : (s.heap.push o).objs.size = s.heap.objs.size + 1 := Heap.size_push ..
  show _ ∧ _
  rw [hz]
  have he : IsEnum ((s.heap.push o).push { cls := .type "enumerate", data := .fields #[.none, .bool false, .ref s.heap.objs.size, rawInt 0, .none, .none] }) (s.heap.objs.size + 1) s.heap.objs.size 0 .none := by
    have q := Heap.get?_push_size (s.heap.push o) (o := { cls := .type "enumerate", data := .fields #[.none, .bool false, .ref s.heap.objs.size, rawInt 0, .none, .none] }) rfl
    rw [hz] at q
    exact q
  exact ⟨⟨_, he, rfl⟩, h _ he (Heap.get?_push_of_some _ (Heap.get?_push_size _ B.free)) (by rw [Heap.size_push, hz]) fun b o x => Heap.get?_push_of_some _ (Heap.get?_push_of_some _ x)⟩
end
/-- the tuple at a, each item in a new pair -/
def IteT (K : PySem.W.Frag) (a : Addr) : It :=
  ⟨fun i H => ∃ (xs : List V) (x : V), SqT K H a xs ∧ xs[i]? = some x, fun i H v H' => ∃ T x, v = .ref T ∧ H T = none ∧ H' = upd H T (.tup [.int (i : Nat), x]) ∧ ∀ xs, SqT K H a xs → xs[i]? = some x, fun i H => ∃ xs : List V, SqT K H a xs ∧ xs.length = i⟩
theorem turn_enumT {P : Program} {w : World} {K : PySem.W.Frag} {elts : List Expr} {kk : Nat} {tpos : Pos} (a e it : Addr) :
    Turn P w K (.Tuple elts kk tpos) (IteT K a) [e, it] e (fun i h => (∃ old, IsEnum h e it ((i : Nat) : Int) old) ∧ h.IsTupleIter it a i ∧ e ≠ it) where
  mem := by simp
  obj := fun i h st b hb => by
    obtain ⟨⟨old, he⟩, ⟨o, ho, hc, hd⟩, _⟩ := st
    have e' : b = e ∨ b = it := by simpa using hb
    rcases e' with z | z
    · rw [z]
      exact ⟨_, he, fun v q => nomatch q⟩
    · rw [z]
      exact ⟨o, ho, fun v q => by rw [hd] at q; cases q⟩
  keep := fun i h h' st k => let ⟨⟨old, he⟩, hi, hne⟩ := st; ⟨⟨old, k e (by simp) _ he⟩, hi.at fun o q => k it (by simp) o q, hne⟩
  item := by
    intro X hP hw hK hc i pins s σ H E I hf st hg
    subst hP hw hK
    obtain ⟨⟨old, he⟩, hit, hne⟩ := st
    obtain ⟨xs, x, hq, hx⟩ := hg
    obtain ⟨its, rv, p, hz⟩ := I.tuple hq
    obtain ⟨u, hu, ru⟩ := rv.get hx
    have hel : e < s.heap.objs.size := Heap.lt_size he
    have hil : it < s.heap.objs.size := by
      obtain ⟨_, q, _⟩ := hit
      exact Heap.lt_size q
    have hlt : i < its.toArray.size := by
      have := (List.getElem?_eq_some_iff.mp hu).1
      simpa using this
    have hat : a ≠ it := fun z => by
      obtain ⟨o1, q1, c1, _⟩ := p
      obtain ⟨o2, q2, c2, _⟩ := hit
      rw [z, q2] at q1
      cases q1
      rw [c1] at c2
      simp at c2
    have hae : e ∉ [it, a] := fun z => by
      rcases List.mem_cons.mp z with z | z
      · exact hne z
      · rcases List.mem_cons.mp z with z | z
        · obtain ⟨o1, q1, c1, _⟩ := p
          rw [← z, he] at q1
          cases q1
          simp at c1
        · cases z
    have pt : s.heap.IsTuple a its.toArray := by
      obtain ⟨o1, q1, c1, n1, d1⟩ := p
      exact ⟨o1, q1, c1, n1, d1⟩
    refine wpAny_pyNext_enum_itemD (Draws.tuple (A := X.A.in1) (I.ok.hd hc) it a hat its.toArray) he ⟨hit, pt⟩ hlt hne hae fun y h' tk hy ho hst hT hsz hk => ?_
    have ey : y = u := by
      have hy2 : its[i]? = some y := by simpa using hy
      rw [hu] at hy2
      exact (Option.some.inj hy2).symm
    subst ey
    refine ⟨_, rfl, wpAny_letOwnedTupleGo_enum (s := { s with heap := h', toks := tk + 1 }) ho fun h'' he' sb => ?_⟩
    have hT2 : h''.get? s.heap.objs.size = some { cls := .type "tuple", data := .seq #[.int i tk, y] } := (sb.2 _ (Nat.ne_of_gt hel)).trans hT
    have new : ObjOk X.prog X.w (upd H s.heap.objs.size (.tup [.int (i : Nat), x])) h'' s.heap.objs.size (.tup [.int (i : Nat), x]) :=
      ⟨by show 2 ≤ sizeLine; decide, [.int i tk, y], .cons ⟨_, rfl⟩ (.cons ru .nil), ⟨_, hT2, rfl, _, rfl⟩⟩
    have I1 : Inv X pins σ (upd H s.heap.objs.size (.tup [.int (i : Nat), x])) { s with heap := h'', toks := tk + 1 } :=
      I.turnedNew (ch := [e, it]) (fun b ob hb q => (sb.2 b (fun z => hb (by simp [z]))).trans (hk b ob (fun z => hb (by simp [z])) (fun z => hb (by simp [z])) q)) hf (Nat.le_refl _) new
    refine ⟨.ref s.heap.objs.size, _, I1, rfl, ⟨_, x, rfl, I.hok.fresh (Nat.le_refl _), rfl, fun ys hy => by rw [I.tuple_inj hy hq]; exact hx⟩, ⟨⟨y, ?_⟩, hst.1.at fun o q => (sb.2 it (Ne.symm hne)).trans q, hne⟩, fun b hb => ?_⟩
    · have e1 : ((i + 1 : Nat) : Int) = (i : Int) + 1 := by omega
      rw [e1]
      exact he'
    · have hb' : b < s.heap.objs.size := by
        have e' : b = e ∨ b = it := by simpa using hb
        rcases e' with z | z
        · rw [z]
          exact hel
        · rw [z]
          exact hil
      rw [upd_ne (Nat.ne_of_lt hb')]
      exact (hf b hb).1
  done := by
    intro X hP hw hK hc i pins s σ H E I hf st hg
    subst hP hw hK
    obtain ⟨⟨old, he⟩, hit, hne⟩ := st
    obtain ⟨xs, hq, hx⟩ := hg
    obtain ⟨its, rv, p, hz⟩ := I.tuple hq
    obtain ⟨f0, f1, f2, f3, f4, f5⟩ := hf it (by simp)
    have hl : its.toArray.size = i := by
      rw [List.size_toArray, ← rv.length, hx]
    have hat : a ≠ it := fun z => by
      obtain ⟨o1, q1, c1, _⟩ := p
      obtain ⟨o2, q2, c2, _⟩ := hit
      rw [z, q2] at q1
      cases q1
      rw [c1] at c2
      simp at c2
    have pt : s.heap.IsTuple a its.toArray := by
      obtain ⟨o1, q1, c1, n1, d1⟩ := p
      exact ⟨o1, q1, c1, n1, d1⟩
    refine wpAny_pyNext_enum_endD (Draws.tuple (A := X.A.in1) (I.ok.hd hc) it a hat its.toArray) he (by rw [hl]; exact ⟨hit, pt⟩) fun h' eb => ⟨rfl, I.turned (t' := s.toks) (fun b o hb q => eb b o hb q) f0 f1 f3 f4 f5⟩
  self := fun A i s Q E st h => let ⟨⟨_, he⟩, _⟩ := st; wpAny_pyIter_enum he h
def iEnumT (K : PySem.W.Frag) (ta : TA) : TI := fun σ H R => ta σ H fun vs H1 => ∃ a xs, vs = [.ref a] ∧ SqT K H1 a xs ∧ R (IteT K a) H1
theorem pi_enumT {X : Cx} {e : Expr} {ta : TA} {p pos tpos : Pos} {elts : List Expr} {kk : Nat} (hg : Gl X "enumerate") (hm : X.mg "enumerate" = none) (ha : PA X [e] ta) (hs : starEach [e] X.env = [(false, eval e X.env)] := by rfl) :
    PI X (.Tuple elts kk tpos) (.Call (.Name "enumerate" p) [e] [] pos) (iEnumT X.K ta) := by
  refine ⟨fun pins s σ H R I h => ?_⟩
  refine Call_ (ld_blt I hg hm boot_enumerate (PyProof.Rows.callWith_type1 (thn (ha.run pos pins s σ H _ I h) fun us s1 ⟨vs, H1, I1, r1, q1⟩ => ?_) hs rfl))
  obtain ⟨a, xs, ex, hq, q⟩ := q1
  subst ex
  cases r1 with
  | cons r rr =>
    cases rr
    cases r
    obtain ⟨its, rv, p', hz⟩ := I1.tuple hq
    have pt : s1.heap.IsTuple a its.toArray := by
      obtain ⟨o1, q1, c1, n1, d1⟩ := p'
      exact ⟨o1, q1, c1, n1, d1⟩
    refine call_enum1 (begins_tuple a its.toArray) pt fun h' he hit hsz hk => wpAny_pyIter_enum he ?_
    have I2 : Inv X pins σ H1 { s1 with heap := h' } := I1.kept (t' := s1.toks) hk
    refine ⟨s1.heap.objs.size + 1, [s1.heap.objs.size + 1, s1.heap.objs.size], _, _, H1, rfl, I2, turn_enumT a (s1.heap.objs.size + 1) s1.heap.objs.size, ⟨⟨.none, he⟩, ⟨_, hit, rfl, rfl⟩, Nat.succ_ne_self _⟩, fun b hb => ?_, q⟩
    have e' : b = s1.heap.objs.size + 1 ∨ b = s1.heap.objs.size := by simpa using hb
    have hle : s1.heap.objs.size ≤ b := by
      rcases e' with z | z
      · rw [z]
        exact Nat.le_add_right _ _
      · rw [z]
        exact Nat.le_refl _
    exact I1.fpOk hle (I1.hok.fresh hle)
end K29
set_option Elab.async false
set_option linter.all false
set_option maxRecDepth 100000
set_option maxHeartbeats 4000000
/-! a dict whose keys are data, all of its values True -/
namespace K29
open PySem PySem.Spec PyProof.Rows L2
mutual
def nk : Dt → NestedKey
  | .non => .none
  | .bl b => .num (if b = true then 1 else 0)
  | .int i => .num i
  | .str x => .text x
  | .tup xs => .tup (nkAll xs)
def nkAll : List Dt → List NestedKey
  | [] => []
  | x :: xs => nk x :: nkAll xs
end
mutual
theorem nk_inj {n m : Nat} : ∀ a b : Dt, ok n a = true → ok m b = true → nk a = nk b → a = b
  | .bl _, _, h, _, _ => by simp [ok] at h
  | .non, b, _, hb, e => by
    cases b with
    | bl _ => simp [ok] at hb
    | non => rfl
    | _ => simp [nk] at e
  | .int i, b, _, hb, e => by
    cases b with
    | bl _ => simp [ok] at hb
    | int j =>
      simp only [nk, NestedKey.num.injEq] at e
      rw [e]
    | _ => simp [nk] at e
  | .str x, b, _, hb, e => by
    cases b with
    | bl _ => simp [ok] at hb
    | str y =>
      simp only [nk, NestedKey.text.injEq] at e
      rw [e]
    | _ => simp [nk] at e
  | .tup xs, b, ha, hb, e => by
    cases b with
    | bl _ => simp [ok] at hb
    | tup ys =>
      simp only [nk, NestedKey.tup.injEq] at e
      obtain ⟨k, rfl, hk⟩ := of_ok_tup ha
      obtain ⟨j, rfl, hj⟩ := of_ok_tup hb
      rw [nkAll_inj xs ys (okAll_iff.mpr hk) (okAll_iff.mpr hj) e]
    | _ => simp [nk] at e
theorem nkAll_inj {n m : Nat} : ∀ xs ys : List Dt, okAll n xs = true → okAll m ys = true → nkAll xs = nkAll ys → xs = ys
  | [], [], _, _, _ => rfl
  | [], _ :: _, _, _, e => by simp [nkAll] at e
  | _ :: _, [], _, _, e => by simp [nkAll] at e
  | x :: xs, y :: ys, ha, hb, e => by
    simp only [okAll, Bool.and_eq_true] at ha hb
    simp only [nkAll, List.cons.injEq] at e
    rw [nk_inj x y ha.1 hb.1 e.1, nkAll_inj xs ys ha.2 hb.2 e.2]
end
mutual
theorem nk_depth {n : Nat} : ∀ a : Dt, ok n a = true → (nk a).depth ≤ n
  | .bl _, h => by simp [ok] at h
  | .non, _ => by simp [nk, NestedKey.depth]
  | .int i, _ => by simp [nk, NestedKey.depth]
  | .str x, _ => by simp [nk, NestedKey.depth]
  | .tup xs, h => by
    obtain ⟨k, rfl, hk⟩ := of_ok_tup h
    have q := nkAll_depth xs (okAll_iff.mpr hk)
    simp only [nk, NestedKey.depth]
    omega
theorem nkAll_depth {n : Nat} : ∀ xs : List Dt, okAll n xs = true → NestedKey.depthAll (nkAll xs) ≤ n
  | [], _ => by simp [nkAll, NestedKey.depthAll]
  | x :: xs, h => by
    simp only [okAll, Bool.and_eq_true] at h
    have q1 := nk_depth x h.1
    have q2 := nkAll_depth xs h.2
    simp only [nkAll, NestedKey.depthAll]
    omega
end
section
variable {X : Cx} {pins : List (Addr × Obj)} {σ : L2.St} {H : Hp} {s : Shared}
mutual
theorem Im.nested (I : Inv X pins σ H s) : ∀ (d : Dt) (v : V) (u : Value), Im X.K H v d → RelV v u → NestedIs s.heap (nk d) u
  | .non, _, _, h, r => by
    cases h
    cases r
    simp only [nk]
    exact .none
  | .bl b, _, _, h, r => by
    cases h
    cases r
    simp only [nk]
    exact .bool rfl
  | .int i, _, _, h, r => by
    cases h
    obtain ⟨t, rfl⟩ := r
    simp only [nk]
    exact .int i t
  | .str x, _, _, h, r => by
    cases h
    obtain ⟨t, rfl⟩ := r
    simp only [nk]
    exact .text x t
  | .tup ds, _, _, h, r => by
    cases h with
    | tup hs ha =>
      cases r
      obtain ⟨its, rv, ⟨o, ho, hc, n, hd⟩, _⟩ := I.tuple hs
      simp only [nk]
      exact .tup ho hc hd (by
        have := ImAll.nested I ds _ its ha rv
        simpa using this)
theorem ImAll.nested (I : Inv X pins σ H s) : ∀ (ds : List Dt) (vs : List V) (us : List Value), ImAll X.K H vs ds → Vals vs us → NestedAll s.heap (nkAll ds) us
  | [], _, _, h, r => by
    cases h
    cases r
    simp only [nkAll]
    exact .nil
  | d :: ds, _, _, h, r => by
    cases h with
    | cons h1 h2 =>
      cases r with
      | cons r1 r2 =>
        simp only [nkAll]
        exact .cons (Im.nested I d _ _ h1 r1) (ImAll.nested I ds _ _ h2 r2)
end
end
/-- what the dict's own object is -/
def rawSeen (P : Program) (w : World) (d : Addr) (ks : List (NestedKey × Addr)) (h : Heap) : Prop :=
  (d == sysModules) = false ∧ ks.length ≤ sizeLine ∧ ∃ o es ep, h.get? d = some o ∧ o.ExactDict ∧ o.data = .dict es ep ∧ es.toList = (ks.map fun x => (x.1, x.2, Value.bool true)).map (entryOfKey (nestedKind P w)) ∧ (ks.map (·.1)).Nodup
theorem rawSeen_stay {P : Program} {w : World} {d : Addr} {ks : List (NestedKey × Addr)} {h1 h2 : Heap} (h : rawSeen P w d ks h1) (k : ∀ o, h1.get? d = some o → h2.get? d = some o) : rawSeen P w d ks h2 := by
  obtain ⟨a, b, o, es, ep, e, r⟩ := h
  exact ⟨a, b, o, es, ep, k o e, r⟩
/-- at d stands the dict of the keys qs -/
def SeenAt (P : Program) (w : World) (K : PySem.W.Frag) (H : Hp) (d : Addr) (qs : List Dt) : Prop :=
  ∃ ks : List (NestedKey × Addr), H d = some (.ext (rawSeen P w d ks)) ∧ Paired (fun (x : NestedKey × Addr) (q : Dt) => x.1 = nk q ∧ Im K H (.ref x.2) q ∧ ok 8 q = true) ks qs
theorem Paired.len {α β : Type} {F : α → β → Prop} : ∀ {xs : List α} {ys : List β}, Paired F xs ys → xs.length = ys.length
  | _, _, .nil => rfl
  | _, _, .cons _ t => by simp [Paired.len t]
theorem Paired.mem {α β : Type} {F : α → β → Prop} : ∀ {xs : List α} {ys : List β}, Paired F xs ys → ∀ x ∈ xs, ∃ y ∈ ys, F x y
  | _, _, .nil, x, h => by cases h
  | _, _, .cons r t, x, h => by
    rcases List.mem_cons.mp h with rfl | h
    · exact ⟨_, List.mem_cons_self, r⟩
    · obtain ⟨y, hy, f⟩ := Paired.mem t x h
      exact ⟨y, List.mem_cons_of_mem _ hy, f⟩
theorem Paired.mem' {α β : Type} {F : α → β → Prop} : ∀ {xs : List α} {ys : List β}, Paired F xs ys → ∀ y ∈ ys, ∃ x ∈ xs, F x y
  | _, _, .nil, x, h => by cases h
  | _, _, .cons r t, x, h => by
    rcases List.mem_cons.mp h with rfl | h
    · exact ⟨_, List.mem_cons_self, r⟩
    · obtain ⟨y, hy, f⟩ := Paired.mem' t x h
      exact ⟨y, List.mem_cons_of_mem _ hy, f⟩
theorem Paired.snoc {α β : Type} {F : α → β → Prop} : ∀ {xs : List α} {ys : List β} {x : α} {y : β}, Paired F xs ys → F x y → Paired F (xs ++ [x]) (ys ++ [y])
  | _, _, _, _, .nil, f => .cons f .nil
  | _, _, _, _, .cons r t, f => .cons r (Paired.snoc t f)
theorem SeenAt.to {P : Program} {w : World} {K : PySem.W.Frag} {H H' : Hp} {d : Addr} {qs : List Dt} (h : SeenAt P w K H d qs) (e : Ext H H') : SeenAt P w K H' d qs := by
  obtain ⟨ks, h1, h2⟩ := h
  exact ⟨ks, e.get h1, Paired.mapP h2 fun a b q => ⟨q.1, q.2.1.to e.kp, q.2.2⟩⟩
theorem SeenAt.chg {P : Program} {w : World} {K : PySem.W.Frag} {H H' : Hp} {A : List Addr} {d : Addr} {qs : List Dt} (h : SeenAt P w K H d qs) (e : Chg A H H') (n : d ∉ A) : SeenAt P w K H' d qs := by
  obtain ⟨ks, h1, h2⟩ := h
  exact ⟨ks, e.obj d _ n h1 (by intro ps z; cases z), Paired.mapP h2 fun a b q => ⟨q.1, q.2.1.to e.kp, q.2.2⟩⟩
section
variable {X : Cx} {pins : List (Addr × Obj)} {σ : L2.St} {H : Hp} {s : Shared}
theorem seen_of {d : Addr} {qs : List Dt} (I : Inv X pins σ H s) (h : SeenAt X.prog X.w X.K H d qs) : ∃ ks : List (NestedKey × Addr), H d = some (.ext (rawSeen X.prog X.w d ks)) ∧ Paired (fun (x : NestedKey × Addr) (q : Dt) => x.1 = nk q ∧ Im X.K H (.ref x.2) q ∧ ok 8 q = true) ks qs ∧
    (d == sysModules) = false ∧ ks.length ≤ sizeLine ∧ s.heap.DictOfH (nestedKind X.prog X.w) d (ks.map fun x => (x.1, x.2, Value.bool true)) := by
  obtain ⟨ks, h1, h2⟩ := h
  obtain ⟨⟨a, b, o, es, ep, e, c, dd, ee, nd⟩, _⟩ := I.hok d _ h1
  refine ⟨ks, h1, h2, a, b, o, es, ep, e, c, dd, ee, fun x hx => ?_, ?_⟩
  · obtain ⟨y, hy, rfl⟩ := List.mem_map.mp hx
    obtain ⟨q, _, q1, q2, q3⟩ := Paired.mem h2 y hy
    refine ⟨?_, ?_⟩
    · show NestedIs s.heap y.1 (.ref y.2)
      rw [q1]
      exact Im.nested I q _ _ q2 rfl
    · show y.1.depth ≤ 8
      rw [q1]
      exact nk_depth q q3
  · rw [List.map_map]
    exact nd
theorem key_of {a : Addr} {q : Dt} (I : Inv X pins σ H s) (h : Im X.K H (.ref a) q) (hq : ok 8 q = true) : (nestedKind X.prog X.w).is s.heap (nk q) a := ⟨Im.nested I q _ _ h rfl, nk_depth q hq⟩
theorem seen_mem {qs : List Dt} {q : Dt} {K : PySem.W.Frag} {H : Hp} {ks : List (NestedKey × Addr)} (h : Paired (fun (x : NestedKey × Addr) (q : Dt) => x.1 = nk q ∧ Im K H (.ref x.2) q ∧ ok 8 q = true) ks qs) (hq : ok 8 q = true) :
    nk q ∈ ks.map (·.1) ↔ q ∈ qs := by
  constructor
  · intro z
    obtain ⟨x, hx, e⟩ := List.mem_map.mp z
    obtain ⟨y, hy, e1, _, e3⟩ := Paired.mem h x hx
    rw [e1] at e
    rw [← nk_inj y q e3 hq e]
    exact hy
  · intro z
    obtain ⟨x, hx, e1, _⟩ := Paired.mem' h q z
    exact List.mem_map.mpr ⟨x, hx, e1⟩
theorem atKey_mem {ks : List (NestedKey × Addr)} {k : NestedKey} : (atKey (ks.map fun x => (x.1, x.2, Value.bool true)) k).isSome = true ↔ k ∈ ks.map (·.1) := by
  unfold atKey
  simp [List.find?_isSome]
/-- x in d, x not in d -/
def rSeen (P : Program) (w : World) (K : PySem.W.Frag) (neg : Bool) : R2 := fun x y H Q => ∃ (d a : Addr) (qs : List Dt) (q : Dt), y = .ref d ∧ x = .ref a ∧ SeenAt P w K H d qs ∧ Im K H (.ref a) q ∧ ok 8 q = true ∧ ∀ c : Bool, (c = true ↔ q ∈ qs) → Q (.bl (if neg then !c else c)) H
theorem op_ninSeen (hu : X.A.units + 65 < cLine) : OpR X (compareOp .NotIn) (rSeen X.prog X.w X.K true) := by
  intro pins s σ H x y v u Q I rx ry h
  obtain ⟨d, a, qs, q, rfl, rfl, hs, hq, ho, k⟩ := h
  cases rx
  cases ry
  obtain ⟨ks, h1, h2, h3, h4, h5⟩ := seen_of I hs
  refine notIn_keyed (knd := nestedKind X.prog X.w) (kvs := pairsH (ks.map fun x => (x.1, x.2, Value.bool true))) (k := nk q) (by show X.A.units + 1 + 8 < cLine; omega) (key_of I hq ho) h3 ⟨_, h5, rfl⟩ ⟨.bl _, H, I.tok _, rfl, ?_⟩
  have e := k (valueAt (pairsH (ks.map fun x => (x.1, x.2, Value.bool true))) (nk q)).isSome (by
    rw [valueAt_pairsH, Option.isSome_map, atKey_mem, seen_mem h2 ho])
  exact e
theorem op_inSeen (hu : X.A.units + 65 < cLine) : OpR X (compareOp .In) (rSeen X.prog X.w X.K false) := by
  intro pins s σ H x y v u Q I rx ry h
  obtain ⟨d, a, qs, q, rfl, rfl, hs, hq, ho, k⟩ := h
  cases rx
  cases ry
  obtain ⟨ks, h1, h2, h3, h4, h5⟩ := seen_of I hs
  refine in_keyed (knd := nestedKind X.prog X.w) (kvs := pairsH (ks.map fun x => (x.1, x.2, Value.bool true))) (k := nk q) (by show X.A.units + 1 + 8 < cLine; omega) (key_of I hq ho) h3 ⟨_, h5, rfl⟩ ⟨.bl _, H, I.tok _, rfl, ?_⟩
  have e := k (valueAt (pairsH (ks.map fun x => (x.1, x.2, Value.bool true))) (nk q)).isSome (by
    rw [valueAt_pairsH, Option.isSome_map, atKey_mem, seen_mem h2 ho])
  exact e
/-- d[x] = True, x a new key -/
def rSetSeen (P : Program) (w : World) (K : PySem.W.Frag) : TSet := fun o i v H Q => ∃ (d a : Addr) (qs : List Dt) (q : Dt), o = .ref d ∧ i = .ref a ∧ v = .bl true ∧ SeenAt P w K H d qs ∧ Im K H (.ref a) q ∧ ok 8 q = true ∧ q ∉ qs ∧ qs.length < 1000000 ∧ ∀ H', Chg [d] H H' → SeenAt P w K H' d (qs ++ [q]) → Q H'
theorem set_seen (hu : X.A.units + 65 < cLine) : PSet X (rSetSeen X.prog X.w X.K) := by
  intro pins s σ H o i v ov iv u Q I ro ri rv h
  obtain ⟨d, a, qs, q, rfl, rfl, rfl, hs, hq, ho, hn, hz, k⟩ := h
  cases ro
  cases ri
  cases rv
  obtain ⟨ks, h1, h2, h3, h4, h5⟩ := seen_of I hs
  have hl := Paired.len h2
  have hnew : nk q ∉ ks.map (·.1) := fun z => hn ((seen_mem h2 ho).mp z)
  refine wpAny_setItem_heap (knd := nestedKind X.prog X.w) (xs := ks.map fun x => (x.1, x.2, Value.bool true)) (k := nk q) (hsz := by rw [List.length_map]; exact h4) (by show X.A.units + 1 + 8 < cLine; omega) (key_of I hq ho) h5 fun h' hm' sb => ?_
  have hst : storedH (ks.map fun x => (x.1, x.2, Value.bool true)) (nk q) a (Value.bool true) = (ks ++ [(nk q, a)]).map fun x => (x.1, x.2, Value.bool true) := by
    have hno : atKey (ks.map fun x => (x.1, x.2, Value.bool true)) (nk q) = none := by
      cases e : atKey (ks.map fun x => (x.1, x.2, Value.bool true)) (nk q) with
      | none => rfl
      | some p => exact absurd (atKey_mem.mp (by rw [e]; rfl)) hnew
    rw [storedH_new hno, List.map_append]
    rfl
  rw [hst] at hm'
  have hlt : d < s.heap.objs.size := by
    obtain ⟨o, _, _, e, _⟩ := h5
    exact Heap.lt_size e
  have new : ObjOk X.prog X.w (upd H d (.ext (rawSeen X.prog X.w d (ks ++ [(nk q, a)])))) h' d (.ext (rawSeen X.prog X.w d (ks ++ [(nk q, a)]))) := by
    obtain ⟨o, es, ep, e, c, dd, ee, _, nd⟩ := hm'
    rw [List.map_map] at nd
    exact ⟨⟨h3, by rw [List.length_append, hl]; exact Nat.le_of_lt (Nat.lt_of_lt_of_le (show qs.length + 1 < 1000001 by omega) (by decide)), o, es, ep, e, c, dd, ee, nd⟩, ⟨o, e⟩, fun a1 a2 p kk => rawSeen_stay p kk⟩
  refine ⟨_, I.write (t' := _) (by rw [h1]; trivial) (.inl rfl) (fun b u hb e => (sb.2 b hb).trans e) (by obtain ⟨o, es, ep, e, _⟩ := hm'; exact ⟨o, e⟩) new, k _ (Chg.put h1) ?_⟩
  have e : Chg [d] H (upd H d (.ext (rawSeen X.prog X.w d (ks ++ [(nk q, a)])))) := Chg.put h1
  exact ⟨_, upd_same, Paired.mapP (Paired.snoc h2 ⟨rfl, hq, ho⟩) fun x y z => ⟨z.1, z.2.1.to e.kp, z.2.2⟩⟩
/-- {} -/
def tDNewS (P : Program) (w : World) (K : PySem.W.Frag) : TE := fun _ H Q => ∀ p H', H p = none → Ext H H' → SeenAt P w K H' p [] → Q (.ref p) H'
theorem pe_dnewS {pos : Pos} : PE X (.Dict [] [] pos) (tDNewS X.prog X.w X.K) := ⟨fun pins s σ H Q I h =>
  wpAny_Dict_empty ⟨.ref s.heap.objs.size, _, I.laid (a := s.heap.objs.size) (o := .ext (rawSeen X.prog X.w s.heap.objs.size [])) (t' := s.toks) (fun _ _ q => Heap.get?_push_of_some _ q) (Nat.le_refl _)
    ⟨⟨beq_eq_false_iff_ne.mpr (Ne.symm (Nat.ne_of_lt I.big)), Nat.zero_le _, _, #[], 0, Heap.get?_push_size _ rfl, ⟨rfl, rfl, rfl⟩, rfl, rfl, List.nodup_nil⟩, ⟨_, Heap.get?_push_size _ rfl⟩, fun a1 a2 p kk => rawSeen_stay p kk⟩, rfl,
    h _ _ (I.hok.fresh (Nat.le_refl _)) (Ext.new (I.hok.fresh (Nat.le_refl _))) ⟨[], upd_same, .nil⟩⟩⟩
/-- {k: True}, k a name of the module that stands for a datum -/
def tDisp1S (P : Program) (w : World) (K : PySem.W.Frag) (a : Addr) : TE := fun _ H Q => ∃ q, Im K H (.ref a) q ∧ ok 8 q = true ∧ ∀ p H', H p = none → Ext H H' → SeenAt P w K H' p [q] → Q (.ref p) H'
theorem pe_disp1S {ke : Expr} {a : Addr} {j : Nat} {p0 pos : Pos} (hu : X.A.units + 65 < cLine) (hk : PE X ke (tC (.ref a))) : PE X (.Dict [some ke] [.Constant (.bool true) j p0] pos) (tDisp1S X.prog X.w X.K a) := by
  refine ⟨fun pins s σ H Q I h => ?_⟩
  obtain ⟨q, hq, ho, k⟩ := h
  have hn := I.hok.fresh (Nat.le_refl s.heap.objs.size)
  have ob0 : ObjOk X.prog X.w (upd H s.heap.objs.size (.ext (rawSeen X.prog X.w s.heap.objs.size []))) (s.heap.push { cls := .type "dict", data := .dict #[] }) s.heap.objs.size (.ext (rawSeen X.prog X.w s.heap.objs.size [])) :=
    ⟨⟨beq_eq_false_iff_ne.mpr (Ne.symm (Nat.ne_of_lt I.big)), Nat.zero_le _, _, #[], 0, Heap.get?_push_size _ rfl, ⟨rfl, rfl, rfl⟩, rfl, rfl, List.nodup_nil⟩, ⟨_, Heap.get?_push_size _ rfl⟩, fun a1 a2 p kk => rawSeen_stay p kk⟩
  have I1 := I.laid (a := s.heap.objs.size) (o := .ext (rawSeen X.prog X.w s.heap.objs.size [])) (h' := s.heap.push { cls := .type "dict", data := .dict #[] }) (t' := s.toks) (fun _ _ q => Heap.get?_push_of_some _ q) (Nat.le_refl _) ob0
  have e0 : Ext H (upd H s.heap.objs.size (.ext (rawSeen X.prog X.w s.heap.objs.size []))) := Ext.new hn
  have hshape : (evalEachOpt [some ke] X.env).zip ((evalEach [.Constant (.bool true) j p0] X.env).map fun v => do let x ← v; standAt pos; pure x) = [(eval ke X.env, (do let x ← eval (.Constant (.bool true) j p0) X.env; standAt pos; pure x))].map fun p => (some p.1, p.2) := by simp [evalEachOpt, evalEach, evalOpt]
  rw [arm_eval_Dict, hshape, dictDisplay_pairs _ (by simp) (by show 1 < 17; decide)]
  refine wpAny_bind (wpAny_standAt (wpAny_bind (wpAny_subDictH (knd := nestedKind X.prog X.w) (Q := fun d s' => wpAny (model X.prog X.w) X.A (pure (Value.ref d)) (EP X pins σ Q) X.xe s') (by show X.A.units + 8 < cLine; omega) (by show 1 ≤ 15; decide) ?_)))
  unfold evalPairs
  refine wpAny_bind (thn (hk.run pins _ σ _ (fun v H2 => v = .ref a ∧ H2 = upd H s.heap.objs.size (.ext (rawSeen X.prog X.w s.heap.objs.size []))) I1 ⟨rfl, rfl⟩) fun u s2 ⟨v, H2, I2, r2, q2⟩ => ?_)
  obtain ⟨rfl, rfl⟩ := q2
  cases r2
  refine wpAny_bind (wpAny_holding (wpAny_bind (thn (pe_bl.run pins s2 σ _ (fun v H2 => v = .bl true ∧ H2 = upd H s.heap.objs.size (.ext (rawSeen X.prog X.w s.heap.objs.size []))) I2 ⟨rfl, rfl⟩) fun u s3 ⟨v, H3, I3, r3, q3⟩ => ?_)))
  obtain ⟨rfl, rfl⟩ := q3
  cases r3
  refine wpAny_bind (wpAny_standAt (wpAny_pure ?_))
  unfold evalPairs
  refine wpAny_bind (wpAny_holding (wpAny_pure (wpAny_pure ?_)))
  have hq3 := hq.to e0.kp
  obtain ⟨⟨b1, b2, o, es, ep, e, c, dd, ee, nd⟩, _⟩ := I3.hok s.heap.objs.size _ upd_same
  refine ⟨[(nk q, a, Value.bool true)], ⟨rfl, rfl, key_of I3 hq3 ho, trivial⟩, ⟨o, es, ep, e, c, dd, ee, (fun x hx => by cases hx), List.nodup_nil⟩, fun h' tk hm' sb => wpAny_pure ?_⟩
  have new : ObjOk X.prog X.w (upd (upd H s.heap.objs.size (.ext (rawSeen X.prog X.w s.heap.objs.size []))) s.heap.objs.size (.ext (rawSeen X.prog X.w s.heap.objs.size [(nk q, a)]))) h' s.heap.objs.size (.ext (rawSeen X.prog X.w s.heap.objs.size [(nk q, a)])) := by
    obtain ⟨o, es, ep, e, c, dd, ee, _, nd⟩ := hm'
    exact ⟨⟨b1, (by show 1 ≤ sizeLine; decide), o, es, ep, e, c, dd, ee, by simp⟩, ⟨o, e⟩, fun a1 a2 p kk => rawSeen_stay p kk⟩
  have e2 : Chg [s.heap.objs.size] (upd H s.heap.objs.size (.ext (rawSeen X.prog X.w s.heap.objs.size []))) (upd (upd H s.heap.objs.size (.ext (rawSeen X.prog X.w s.heap.objs.size []))) s.heap.objs.size (.ext (rawSeen X.prog X.w s.heap.objs.size [(nk q, a)]))) := Chg.put upd_same
  refine ⟨.ref s.heap.objs.size, _, I3.write (t' := tk) (by rw [upd_same]; trivial) (.inl rfl) (fun b u hb e => (sb.2 b hb).trans e) (by obtain ⟨o, es, ep, e, _⟩ := hm'; exact ⟨o, e⟩) new, rfl, k _ _ hn ((e0.chg.trans e2).ext fun b hb => by rw [List.mem_singleton.mp hb]; exact hn) ⟨_, upd_same, .cons ⟨rfl, hq3.to e2.kp, ho⟩ .nil⟩⟩
end
end K29
set_option Elab.async false
set_option linter.all false
set_option maxRecDepth 100000
set_option maxHeartbeats 4000000
/-! a dict among the dicts of a list -/
namespace K29
open PySem PySem.Spec PyProof.Rows L2
section
variable {prog : Program} {w : World}
theorem contains_loopP (l : Addr) (items : Array Value) (n : Nat) (dd : Option Addr) (sl : Array (Option Value)) (x : Value) (e : Nat → Bool) (k : Nat) :
    ∀ i : Nat, items.size - i = k → MeetsIn prog w (Builtin.«list.__contains__.loop» ⟨[.ref l, x, rawInt i], []⟩)
      (fun A R s => s.heap.get? l = some { cls := .type "list", dict := dd, data := .seq items n, slots := sl } ∧ (∀ j (h : j < items.size), SeqAt.EqP prog w A.in1 s items[j] x (e j)) ∧ R (.ok (.ret (.bool (((List.range items.size).drop i).any e)))) s) := by
  induction k with
  | zero =>
    intro i hk A R s h
    obtain ⟨hp, g, d, tk, os⟩ := s
    obtain ⟨hl, he, h⟩ := h
    wp_walk using wpAny_loadPart' hl
    have hi : items[((i : Nat) : Int).toNat]? = none := by simp; omega
    have hd : (List.range items.size).drop i = [] := by simp; omega
    rw [hd] at h
    rw [hi]
    wp_walk
    exact h
  | succ k ih =>
    intro i hk A R s h
    obtain ⟨hp, g, d, tk, os⟩ := s
    obtain ⟨hl, he, h⟩ := h
    wp_walk using wpAny_loadPart' hl
    have hlt : i < items.size := by omega
    have hi : items[((i : Nat) : Int).toNat]? = some items[i] := by simp [hlt]
    have hd : (List.range items.size).drop i = i :: (List.range items.size).drop (i + 1) := by simp [List.drop_eq_getElem_cons, hlt]
    rw [hd, List.any_cons] at h
    rw [hi]
    refine wpAny_bind (he i hlt _ _ ?_)
    cases hb : e i with
    | true =>
      rw [hb] at h
      wp_walk
      exact h
    | false =>
      rw [hb] at h
      have hc : ((i : Int) + 1) = ((i + 1 : Nat) : Int) := by push_cast; rfl
      wp_walk
      rw [hc]
      exact ⟨plainId_quiet MeetsSeq.plain_contains_loop _, codeAny_builtin MeetsSeq.entry_contains_loop (by
        rw [Around.under_plainId MeetsSeq.plain_contains_loop _]
        exact ih (i + 1) (by omega) A R _ ⟨hl, he, by simpa using h⟩)⟩
theorem containsP (l : Addr) (items : Array Value) (n : Nat) (dd : Option Addr) (sl : Array (Option Value)) (x : Value) (e : Nat → Bool) :
    MeetsIn prog w (Builtin.«list.__contains__» ⟨[.ref l, x], []⟩)
      (fun A R s => s.heap.get? l = some { cls := .type "list", dict := dd, data := .seq items n, slots := sl } ∧ (∀ j (h : j < items.size), SeqAt.EqP prog w A.in1 s items[j] x (e j)) ∧ R (.ok (.ret (.bool ((List.range items.size).any e)))) s) := by
  intro A R s h
  obtain ⟨hp, g, d, tk, os⟩ := s
  obtain ⟨hl, he, h⟩ := h
  wp_walk using wpAny_loadPart' hl
  exact ⟨plainId_quiet MeetsSeq.plain_contains_loop _, codeAny_builtin MeetsSeq.entry_contains_loop (by
    rw [Around.under_plainId MeetsSeq.plain_contains_loop _]
    exact contains_loopP l items n dd sl x e _ 0 rfl A R _ ⟨hl, he, by simpa using h⟩)⟩
theorem notIn_listP {A : Around} {E : Value → Shared → Prop} {s : Shared} {l : Addr} {items : Array Value} {n : Nat} {dd : Option Addr} {sl : Array (Option Value)} {x : Value} {e : Nat → Bool} {Q : Value → Shared → Prop}
    (ho : s.heap.get? l = some { cls := .type "list", dict := dd, data := .seq items n, slots := sl }) (he : ∀ j (h : j < items.size), SeqAt.EqP prog w A.in1 s items[j] x (e j)) (h : Q (.bool (!(List.range items.size).any e)) s) :
    wpAny (model prog w) A (compareOp .NotIn x (.ref l)) Q E s := by
  show wpAny _ A (do return .bool (!(← contains (.ref l) x))) Q E s
  have ht : s.TypeIs (.ref l) "list" := ⟨_, ho, rfl⟩
  refine wpAny_bind (wpAny_contains_slot ht F.slot_list_contains (call_meetsIn F.slot_list_contains ht F.entry_list_contains (F.args_list_contains_2 _ _) (containsP l items n dd sl x e) ⟨ho, he, ?_⟩))
  exact wpAny_truthy_bool (wpAny_pure h)
end
/-! ### a world of the law, as its dict has it -/
structure LS where
  wheel : Dt
  shelf : List Dt
  stand : Dt
  heard : List Dt
  spoken : List Dt
  manner : Str
def lawKvs (a b c d e f : V) : List (Key × V) := [(.inr "wheel", a), (.inr "shelf", b), (.inr "stand", c), (.inr "heard", d), (.inr "spoken", e), (.inr "manner", f)]
theorem vk_wheel {a b c d e f : V} : valV (lawKvs a b c d e f) (.inr "wheel") = some a := by rfl
theorem vk_shelf {a b c d e f : V} : valV (lawKvs a b c d e f) (.inr "shelf") = some b := by rfl
theorem vk_stand {a b c d e f : V} : valV (lawKvs a b c d e f) (.inr "stand") = some c := by rfl
theorem vk_heard {a b c d e f : V} : valV (lawKvs a b c d e f) (.inr "heard") = some d := by rfl
theorem vk_spoken {a b c d e f : V} : valV (lawKvs a b c d e f) (.inr "spoken") = some e := by rfl
theorem vk_manner {a b c d e f : V} : valV (lawKvs a b c d e f) (.inr "manner") = some f := by rfl
theorem pk_wheel {a b c d e f v : V} : putK (lawKvs a b c d e f) (.inr "wheel") v = lawKvs v b c d e f := by rfl
theorem pk_shelf {a b c d e f v : V} : putK (lawKvs a b c d e f) (.inr "shelf") v = lawKvs a v c d e f := by rfl
theorem pk_stand {a b c d e f v : V} : putK (lawKvs a b c d e f) (.inr "stand") v = lawKvs a b v d e f := by rfl
theorem pk_heard {a b c d e f v : V} : putK (lawKvs a b c d e f) (.inr "heard") v = lawKvs a b c v e f := by rfl
theorem pk_spoken {a b c d e f v : V} : putK (lawKvs a b c d e f) (.inr "spoken") v = lawKvs a b c d v f := by rfl
/-- such a dict stands at p -/
def LawAt (K : PySem.W.Frag) (H : Hp) (p : Addr) (S : LS) : Prop :=
  ∃ (a c : V) (l m n : Addr), H p = some (.dK (lawKvs a (.ref l) c (.ref m) (.ref n) (.str S.manner))) ∧ Im K H a S.wheel ∧ LsM K H l S.shelf ∧ Im K H c S.stand ∧ LsM K H m S.heard ∧ LsM K H n S.spoken
/-- its data may be compared -/
structure LSok (S : LS) : Prop where
  wheel : ok 30 S.wheel = true
  shelf : ∀ d ∈ S.shelf, ok 30 d = true
  stand : ok 30 S.stand = true
  heard : ∀ d ∈ S.heard, ok 30 d = true
  spoken : ∀ d ∈ S.spoken, ok 30 d = true
  manner : PyData.strOk S.manner = true
theorem LawAt.to {K : PySem.W.Frag} {H H' : Hp} {p : Addr} {S : LS} (h : LawAt K H p S) (e : Ext H H') : LawAt K H' p S := by
  obtain ⟨a, c, l, m, n, h0, h1, h2, h3, h4, h5⟩ := h
  exact ⟨a, c, l, m, n, e.get h0, h1.to e.kp, h2.to e, h3.to e.kp, h4.to e, h5.to e⟩
section
variable {X : Cx} {pins : List (Addr × Obj)} {σ : L2.St} {H : Hp} {s : Shared}
/-- == of two data, both known -/
theorem eqp_of {x y : V} {u v : Value} {d e : PyData} {A : Around} (I : Inv X pins σ H s) (hx : Dp X.K H x d) (hy : Dp X.K H y e) (rx : RelV x u) (ry : RelV y v) (hd : SeqAt.shaped d = true) (he : SeqAt.shaped e = true) (hu : A.units + 64 < cLine) : SeqAt.EqP X.prog X.w A s u v (PyData.eqv d e) := by
  obtain ⟨as, r1⟩ := Dp.reads I d x u hx rx
  obtain ⟨bs, r2⟩ := Dp.reads I e y v hy ry
  exact (SeqAt.eqAt_reads d e A s u v as bs r1 r2 (SeqAt.canLay_of_shaped hd) (SeqAt.canLay_of_shaped he) (SeqAt.room_of_shaped hd hu)).eqP
theorem LsR.dp {K : PySem.W.Frag} {H : Hp} {l : Addr} {ds : List Dt} (h : LsR K H l ds) : Dp K H (.ref l) (.list (pyAll ds)) := by
  obtain ⟨xs, h1, h2⟩ := h
  exact .lst h1 (ImAll.dp ds xs h2)
theorem eqvL_iff {n m : Nat} {xs ys : List Dt} (ha : ∀ d ∈ xs, ok n d = true) (hb : ∀ d ∈ ys, ok m d = true) : PyData.eqv (.list (pyAll xs)) (.list (pyAll ys)) = true ↔ xs = ys := by
  simp only [PyData.eqv]
  exact eqvAll_iff xs ys (okAll_iff.mpr ha) (okAll_iff.mpr hb)
theorem eqp_law {p q : Addr} {S T : LS} {A : Around} (I : Inv X pins σ H s) (h1 : LawAt X.K H p S) (h2 : LawAt X.K H q T) (o1 : LSok S) (o2 : LSok T) (hne : p ≠ q) (hu : A.units + 70 < cLine) : ∃ b : Bool, (b = true ↔ S = T) ∧ SeqAt.EqP X.prog X.w A s (.ref p) (.ref q) b := by
  obtain ⟨a, c, l, m, n, g0, g1, g2, g3, g4, g5⟩ := h1
  obtain ⟨a', c', l', m', n', k0, k1, k2, k3, k4, k5⟩ := h2
  obtain ⟨_, ya, va, ra, da⟩ := (show ObjOk X.prog X.w H s.heap p _ from I.hok p _ g0)
  obtain ⟨_, yb, vb, rb, db⟩ := (show ObjOk X.prog X.w H s.heap q _ from I.hok q _ k0)
  unfold KV lawKvs at ra rb
  cases ra with | cons a1 ra => cases ra with | cons a2 ra => cases ra with | cons a3 ra => cases ra with | cons a4 ra => cases ra with | cons a5 ra => cases ra with | cons a6 ra =>
  cases ra
  cases rb with | cons b1 rb => cases rb with | cons b2 rb => cases rb with | cons b3 rb => cases rb with | cons b4 rb => cases rb with | cons b5 rb => cases rb with | cons b6 rb =>
  cases rb
  rename_i u1 u2 u3 u4 u5 u6 w1 w2 w3 w4 w5 w6
  obtain ⟨x1, u1⟩ := u1; obtain ⟨x2, u2⟩ := u2; obtain ⟨x3, u3⟩ := u3; obtain ⟨x4, u4⟩ := u4; obtain ⟨x5, u5⟩ := u5; obtain ⟨x6, u6⟩ := u6
  obtain ⟨z1, w1⟩ := w1; obtain ⟨z2, w2⟩ := w2; obtain ⟨z3, w3⟩ := w3; obtain ⟨z4, w4⟩ := w4; obtain ⟨z5, w5⟩ := w5; obtain ⟨z6, w6⟩ := w6
  obtain ⟨rfl, a1⟩ := a1; obtain ⟨rfl, a2⟩ := a2; obtain ⟨rfl, a3⟩ := a3; obtain ⟨rfl, a4⟩ := a4; obtain ⟨rfl, a5⟩ := a5; obtain ⟨rfl, a6⟩ := a6
  obtain ⟨rfl, b1⟩ := b1; obtain ⟨rfl, b2⟩ := b2; obtain ⟨rfl, b3⟩ := b3; obtain ⟨rfl, b4⟩ := b4; obtain ⟨rfl, b5⟩ := b5; obtain ⟨rfl, b6⟩ := b6
  have hu1 : A.in1.units + 64 < cLine := by show A.units + 1 + 64 < cLine; omega
  have e1 := eqp_of (A := A.in1) I (g1.dp S.wheel a) (k1.dp T.wheel a') a1 b1 (ok_shaped o1.wheel (by decide)) (ok_shaped o2.wheel (by decide)) hu1
  have e2 := eqp_of (A := A.in1) I g2.rd.dp k2.rd.dp a2 b2 (ok_shapedL o1.shelf (by decide)) (ok_shapedL o2.shelf (by decide)) hu1
  have e3 := eqp_of (A := A.in1) I (g3.dp S.stand c) (k3.dp T.stand c') a3 b3 (ok_shaped o1.stand (by decide)) (ok_shaped o2.stand (by decide)) hu1
  have e4 := eqp_of (A := A.in1) I g4.rd.dp k4.rd.dp a4 b4 (ok_shapedL o1.heard (by decide)) (ok_shapedL o2.heard (by decide)) hu1
  have e5 := eqp_of (A := A.in1) I g5.rd.dp k5.rd.dp a5 b5 (ok_shapedL o1.spoken (by decide)) (ok_shapedL o2.spoken (by decide)) hu1
  have t1 : SeqAt.shaped (.str S.manner) = true := by
    have := o1.manner
    simp [SeqAt.shaped, PyData.canLay0, PyData.depth, this]
  have t2 : SeqAt.shaped (.str T.manner) = true := by
    have := o2.manner
    simp [SeqAt.shaped, PyData.canLay0, PyData.depth, this]
  have e6 := eqp_of (A := A.in1) I (.str S.manner) (.str T.manner) a6 b6 t1 t2 hu1
  refine ⟨_, ?_, SeqAt.eqP_refs hne fun E Q hq => PySem.W.rcP_dicts (knd := mixKind X.prog X.w) ya yb da db (by omega) (fun _ => .hit (y := w1) rfl e1 (.hit (y := w2) rfl e2 (.hit (y := w3) rfl e3 (.hit (y := w4) rfl e4 (.hit (y := w5) rfl e5 (.hit (y := w6) rfl e6 .nil)))))) E Q hq⟩
  obtain ⟨s1, s2, s3, s4, s5, s6⟩ := S
  obtain ⟨r1, r2, r3, r4, r5, r6⟩ := T
  simp only [List.length_cons, List.length_nil, beq_self_eq_true, Bool.true_and, Bool.and_true, Bool.and_eq_true, LS.mk.injEq]
  rw [eqv_iff _ _ o1.wheel o2.wheel, eqvL_iff o1.shelf o2.shelf, eqv_iff _ _ o1.stand o2.stand, eqvL_iff o1.heard o2.heard, eqvL_iff o1.spoken o2.spoken]
  simp only [PyData.eqv, beq_iff_eq]
/-- x not in l: l a list of such dicts, x none of them -/
def rNinLaw (K : PySem.W.Frag) : R2 := fun x y H Q => ∃ (p l : Addr) (S : LS) (ps : List Addr) (Ss : List LS), x = .ref p ∧ y = .ref l ∧ H l = some (.lst (ps.map V.ref)) ∧ LawAt K H p S ∧ LSok S ∧ Paired (fun q T => LawAt K H q T ∧ LSok T ∧ p ≠ q) ps Ss ∧
  ∀ c : Bool, (c = true ↔ S ∉ Ss) → Q (.bl c) H
theorem paired_get {α β : Type} {F : α → β → Prop} : ∀ {xs : List α} {ys : List β} {i : Nat} {x : α}, Paired F xs ys → xs[i]? = some x → ∃ y, ys[i]? = some y ∧ F x y
  | _, _, _, _, .nil, e => by simp at e
  | _, _, 0, _, .cons r _, e => by
    simp at e
    subst e
    exact ⟨_, rfl, r⟩
  | _, _, i + 1, x, .cons _ t, e => by
    obtain ⟨y, h1, h2⟩ := paired_get (i := i) (x := x) t (by simpa using e)
    exact ⟨y, by simpa using h1, h2⟩
theorem op_ninLaw (hu : X.A.units + 80 < cLine) : OpR X (compareOp .NotIn) (rNinLaw X.K) := by
  intro pins s σ H x y v u Q I rx ry h
  obtain ⟨p, l, S, ps, Ss, rfl, rfl, hl, hp, ho, hps, k⟩ := h
  cases rx
  cases ry
  obtain ⟨hz, its, n, rv, hobj⟩ := I.hok l _ hl
  have hits : its = ps.map Value.ref := refs_at rv
  subst hits
  have hlen := Paired.len hps
  have ex : ∀ j : Nat, ∃ b : Bool, ∀ (h : j < (ps.map Value.ref).toArray.size) (T : LS), Ss[j]? = some T → (b = true ↔ S = T) ∧ SeqAt.EqP X.prog X.w X.A.in1 s (ps.map Value.ref).toArray[j] (.ref p) b := by
    intro j
    by_cases hj : j < ps.length
    · obtain ⟨T, hT, g1, g2, g3⟩ := paired_get hps (List.getElem?_eq_getElem hj)
      obtain ⟨b, hb, eb⟩ := eqp_law (A := X.A.in1) I g1 hp g2 ho (Ne.symm g3) (by show X.A.units + 1 + 70 < cLine; omega)
      refine ⟨b, fun h T' hT' => ?_⟩
      rw [hT] at hT'
      obtain rfl := Option.some.inj hT'
      refine ⟨⟨fun z => (hb.mp z).symm, fun z => hb.mpr z.symm⟩, ?_⟩
      have e : (ps.map Value.ref).toArray[j] = Value.ref ps[j] := by simp
      rw [e]
      exact eb
    · refine ⟨true, fun h => absurd ?_ hj⟩
      simpa using h
  refine notIn_listP (e := fun j => Classical.choose (ex j)) hobj (fun j h => ?_) ⟨.bl _, H, I, rfl, k _ ?_⟩
  · have hj : j < Ss.length := by
      have : j < ps.length := by simpa using h
      omega
    exact (Classical.choose_spec (ex j) h Ss[j] (List.getElem?_eq_getElem hj)).2
  · rw [Bool.not_eq_true', ← Bool.not_eq_true, List.any_eq_true]
    constructor
    · rintro z hm
      obtain ⟨j, hj, e⟩ := List.getElem_of_mem hm
      have h : j < (ps.map Value.ref).toArray.size := by
        simp
        omega
      exact z ⟨j, List.mem_range.mpr h, ((Classical.choose_spec (ex j) h Ss[j] (List.getElem?_eq_getElem hj)).1).mpr e.symm⟩
    · rintro z ⟨j, hj, e⟩
      have h := List.mem_range.mp hj
      have hj2 : j < Ss.length := by
        have : j < ps.length := by simpa using h
        omega
      have := ((Classical.choose_spec (ex j) h Ss[j] (List.getElem?_eq_getElem hj2)).1).mp e
      exact z (this ▸ List.getElem_mem hj2)
end
end K29
set_option Elab.async false
set_option linter.all false
set_option maxRecDepth 100000
set_option maxHeartbeats 4000000
/-! dict(d) -/
namespace K29
open PySem PySem.Spec PyProof.Rows L2
section
variable {X : Cx}
def rDictX : List V → Hp → VK → Prop := fun xs H Q => ∃ p kvs, xs = [.ref p] ∧ H p = some (.dK kvs) ∧ ∀ q, H q = none → Q (.ref q) (upd H q (.dK kvs))
theorem call_dictX : CallR X (.type "dict") rDictX := by
  intro pins s σ H xs us Q I r h
  obtain ⟨p, kvs, rfl, hp, k⟩ := h
  rw [Vals.ref1 r]
  obtain ⟨hz, lo, vs, rv, hd⟩ := (show ObjOk X.prog X.w H s.heap p (.dK kvs) from I.hok p _ hp)
  have hl : vs.length ≤ sizeLine := by rw [← rv.length]; exact hz
  refine kt_call_dict lo hd hl fun h' hm hs => ?_
  have kp : ∀ b o, s.heap.get? b = some o → h'.get? b = some o := fun b o e => hs.extBut b o (Nat.ne_of_lt (Heap.lt_size e)) (Heap.get?_push_of_some _ e)
  refine ⟨.ref s.heap.objs.size, _, I.laid (t' := s.toks) (o := .dK kvs) kp (Nat.le_refl _) ?_, rfl, k _ (I.hok.fresh (Nat.le_refl _))⟩
  exact ⟨hz, beq_eq_false_iff_ne.mpr (Nat.ne_of_gt I.big), vs, rv, hm⟩
end
end K29
set_option Elab.async false
set_option linter.all false
set_option maxRecDepth 100000
set_option maxHeartbeats 4000000
/-! sorted: of tuples of ints; by a key that is a tuple -/
namespace K29
open PySem PySem.Spec PyProof.Rows L2
def RInt (v : Value) : Prop := ∃ n t, v = .int n t
/-- a tuple of ints -/
def RTI (h : Heap) (v : Value) : Prop := ∃ a its, v = .ref a ∧ h.IsTuple a its ∧ ∀ x ∈ its.toList, RInt x
/-- what is put in order: tuples of ints, or quadruples with a tuple of ints in the third place -/
def RSh (h : Heap) : Bool → Value → Prop
  | false, v => ∃ a its n t r, v = .ref a ∧ h.IsTuple a its ∧ its.toList = .int n t :: r ∧ ∀ x ∈ r, RInt x
  | true, v => ∃ a its n t n' t' p n2 t2, v = .ref a ∧ h.IsTuple a its ∧ its.toList = [.int n t, .int n' t', p, .int n2 t2] ∧ RTI h p
theorem isTuple_keeps {h h' : Heap} {a : Addr} {its : Array Value} (x : h.IsTuple a its) (k : ∀ b o, h.get? b = some o → o.cls = .type "tuple" → h'.get? b = some o) : h'.IsTuple a its := by
  obtain ⟨o, e, c, n, d⟩ := x
  exact ⟨o, k _ _ e c, c, n, d⟩
theorem RTI.keeps {h h' : Heap} {v : Value} (x : RTI h v) (k : ∀ b o, h.get? b = some o → o.cls = .type "tuple" → h'.get? b = some o) : RTI h' v := by
  obtain ⟨a, its, e, t, z⟩ := x
  exact ⟨a, its, e, isTuple_keeps t k, z⟩
theorem RSh.keeps {h h' : Heap} {b : Bool} {v : Value} (x : RSh h b v) (k : ∀ b o, h.get? b = some o → o.cls = .type "tuple" → h'.get? b = some o) : RSh h' b v := by
  cases b with
  | false =>
    obtain ⟨a, its, n, t, r, e, q, l, z⟩ := x
    exact ⟨a, its, n, t, r, e, isTuple_keeps q k, l, z⟩
  | true =>
    obtain ⟨a, its, n, t, n', t', p, n2, t2, e, q, l, z⟩ := x
    exact ⟨a, its, n, t, n', t', p, n2, t2, e, isTuple_keeps q k, l, z.keeps k⟩
section
variable {prog : Program} {w : World} {A : Around} {s : Shared} {fin : Bool}
/-- the pair at place i compares -/
def Fair (prog : Program) (w : World) (A : Around) (s : Shared) (i : Nat) (p q : Value) : Prop :=
  (∃ e, SeqAt.EqAt A s p q e) ∧ ∃ r, ∀ (Q : Bool → Shared → Prop) (E : Value → Shared → Prop), Q r s → wpAny (model prog w) A (oneLt' (true && i == 0) p q) Q E s
theorem fair_int {i : Nat} {p q : Value} (hp : RInt p) (hq : RInt q) : Fair prog w A s i p q := by
  obtain ⟨n, t, rfl⟩ := hp
  obtain ⟨m, u, rfl⟩ := hq
  refine ⟨⟨_, SeqAt.EqAt.int_int n t m u⟩, decide (n < m), fun Q E h => ?_⟩
  cases (true && i == 0) with
  | true => exact oneLt_int h
  | false => exact PySem.W.kat_one _ _ (PyProof.Rows.lt_int (Q := PySem.W.BoolBack Q) h)
theorem fair_tup {i : Nat} {p q : Value} (hu : A.units + 2 < cLine) (hp : RTI s.heap p) (hq : RTI s.heap q) : Fair prog w A s (i + 1) p q := by
  obtain ⟨a, xs, rfl, hx, ix⟩ := hp
  obtain ⟨b, ys, rfl, hy, iy⟩ := hq
  have gx : ∀ j (h1 : j < xs.size), RInt xs[j] := fun j h1 => ix _ (Array.mem_toList_iff.mpr (Array.getElem_mem h1))
  have gy : ∀ j (h1 : j < ys.size), RInt ys[j] := fun j h1 => iy _ (Array.mem_toList_iff.mpr (Array.getElem_mem h1))
  have num : ∀ v, RInt v → ∃ n t, v = Value.int n t := fun v h => h
  let nm : Value → Int := fun v => match v with | .int n _ => n | _ => 0
  have hnm : ∀ v, RInt v → ∃ t, v = Value.int (nm v) t := by
    rintro v ⟨n, t, rfl⟩
    exact ⟨t, rfl⟩
  have he : ∀ (B : Around) j (h1 : j < xs.size) (h2 : j < ys.size), SeqAt.EqAt B s xs[j] ys[j] (nm (xs.getD j .none) == nm (ys.getD j .none)) := by
    intro B j h1 h2
    obtain ⟨t, e1⟩ := hnm _ (gx j h1)
    obtain ⟨u, e2⟩ := hnm _ (gy j h2)
    have d1 : xs.getD j .none = xs[j] := by simp [Array.getD, h1]
    have d2 : ys.getD j .none = ys[j] := by simp [Array.getD, h2]
    rw [d1, d2]
    have z := SeqAt.EqAt.int_int (A := B) (s := s) (nm xs[j]) t (nm ys[j]) u
    rw [← e1, ← e2] at z
    exact z
  have hl : ∀ (B : Around) j (h1 : j < xs.size) (h2 : j < ys.size), Ob.RcOp .Lt B s xs[j] ys[j] (decide (nm (xs.getD j .none) < nm (ys.getD j .none))) := by
    intro B j h1 h2
    obtain ⟨t, e1⟩ := hnm _ (gx j h1)
    obtain ⟨u, e2⟩ := hnm _ (gy j h2)
    have d1 : xs.getD j .none = xs[j] := by simp [Array.getD, h1]
    have d2 : ys.getD j .none = ys[j] := by simp [Array.getD, h2]
    rw [d1, d2]
    have z := Ob.RcOp.lt_int (A := B) (s := s) (nm xs[j]) (nm ys[j]) t u
    rw [← e1, ← e2] at z
    exact z
  obtain ⟨c, hL⟩ : ∃ c, Ob.RcOp .Lt A s (.ref a) (.ref b) c := ⟨_, Ob.RcOp.tuples_lt hx hy (by omega : A.units < cLine) (fun j h1 h2 => he A.in1 j h1 h2) (fun j h1 h2 _ => hl A.in1 j h1 h2)⟩
  have e0 : (true && (i + 1) == 0) = false := by simp
  constructor
  · by_cases e : a = b
    · subst e
      exact ⟨true, .same _⟩
    · exact ⟨_, .of_refs e (.tuples hx hy (by omega) fun j h1 h2 => he A.in1 j h1 h2)⟩
  · refine ⟨c, fun Q E h => ?_⟩
    rw [e0]
    exact PySem.W.kat_one _ _ (hL prog w E (PySem.W.BoolBack Q) h)
theorem lex_some : ∀ (l : List (Value × Value)) (i : Nat), (∀ j p q, l[j]? = some (p, q) → Fair prog w A s (i + j) p q) → ∃ b, ∀ Q : Bool → Shared → Prop, Q b s → PySem.W.KatLex prog w A true fin Q l i s
  | [], i, _ => ⟨fin, fun Q h => PySem.W.kat_nil h⟩
  | (p, q) :: r, i, h => by
    obtain ⟨⟨e, he⟩, c, hc⟩ := h 0 p q (by simp)
    obtain ⟨b, hb⟩ := lex_some r (i + 1) fun j p' q' hj => by
      have z := h (j + 1) p' q' (by simpa using hj)
      rwa [show i + 1 + j = i + (j + 1) by omega]
    cases e with
    | true => exact ⟨b, fun Q h => PySem.W.kat_cons (he prog w _ _ (PySem.W.kat_yes (hb Q h)))⟩
    | false => exact ⟨c, fun Q h => PySem.W.kat_cons (he prog w _ _ (PySem.W.kat_no (hc Q _ h)))⟩
theorem sh_tot {b : Bool} {P : Keyed → Prop} (hu : A.units + 2 < cLine) (hp : ∀ p, P p → RSh s.heap b p.1) : Srt.Tot prog w A s (tuples' true) P := by
  intro p q hm hm'
  have h1 := hp p hm
  have h2 := hp q hm'
  have key : ∃ a a' its its', p.1 = .ref a ∧ q.1 = .ref a' ∧ s.heap.IsTuple a its ∧ s.heap.IsTuple a' its' ∧ ∀ j x y, (its.toList.zip its'.toList)[j]? = some (x, y) → Fair prog w A s (0 + j) x y := by
    cases b with
    | false =>
      obtain ⟨a, its, n, t, r, e, ht, l, z⟩ := h1
      obtain ⟨a', its', n', t', r', e', ht', l', z'⟩ := h2
      refine ⟨a, a', its, its', e, e', ht, ht', fun j x y hj => ?_⟩
      rw [l, l'] at hj
      obtain ⟨q1, q2⟩ := List.of_mem_zip (List.mem_of_getElem? hj)
      refine fair_int ?_ ?_
      · rcases List.mem_cons.mp q1 with h | h
        · exact ⟨n, t, h⟩
        · exact z x h
      · rcases List.mem_cons.mp q2 with h | h
        · exact ⟨n', t', h⟩
        · exact z' y h
    | true =>
      obtain ⟨a, its, n, t, m, u, pp, k, o, e, ht, l, z⟩ := h1
      obtain ⟨a', its', n', t', m', u', pp', k', o', e', ht', l', z'⟩ := h2
      refine ⟨a, a', its, its', e, e', ht, ht', fun j x y hj => ?_⟩
      rw [l, l'] at hj
      match j, hj with
      | 0, hj =>
        cases hj
        exact fair_int ⟨_, _, rfl⟩ ⟨_, _, rfl⟩
      | 1, hj =>
        cases hj
        exact fair_int ⟨_, _, rfl⟩ ⟨_, _, rfl⟩
      | 2, hj =>
        cases hj
        rw [show 0 + 2 = 1 + 1 from rfl]
        exact fair_tup hu z z'
      | 3, hj =>
        cases hj
        exact fair_int ⟨_, _, rfl⟩ ⟨_, _, rfl⟩
      | j + 4, hj => simp at hj
  obtain ⟨a, a', its, its', e, e', ⟨o, ho, hc, n, hd⟩, ⟨o', ho', hc', n', hd'⟩, hf⟩ := key
  obtain ⟨c, hcc⟩ := lex_some (fin := decide (its.size < its'.size)) _ 0 hf
  refine ⟨c, ?_⟩
  rw [e, e']
  exact PySem.W.kat_lt ho hd ho' hd' (hcc _ ⟨rfl, rfl⟩)
theorem sh_firsts {h : Heap} {b : Bool} : ∀ {vs : List Value}, (∀ v ∈ vs, RSh h b v) → ∃ fs : List Value, PySem.W.KatTups h vs fs ∧ fs.length = vs.length ∧ ∀ f ∈ fs, ∃ x t, f = Value.int x t
  | [], _ => ⟨[], PySem.W.KatTups.nil, rfl, fun _ hm => by simp at hm⟩
  | v :: vs, hp => by
    obtain ⟨fs, h1, h2, h3⟩ := sh_firsts (vs := vs) fun v' hm => hp v' (List.mem_cons_of_mem _ hm)
    have key : ∃ a its n t r, v = .ref a ∧ h.IsTuple a its ∧ its.toList = Value.int n t :: r := by
      have z := hp v (List.mem_cons_self ..)
      cases b with
      | false =>
        obtain ⟨a, its, n, t, r, e, ht, l, _⟩ := z
        exact ⟨a, its, n, t, r, e, ht, l⟩
      | true =>
        obtain ⟨a, its, n, t, m, u, pp, k, o, e, ht, l, _⟩ := z
        exact ⟨a, its, n, t, _, e, ht, l⟩
    obtain ⟨a, its, n, t, r, rfl, ⟨o, ho, hc, k, hd⟩, l⟩ := key
    have e0 : its[0]? = some (.int n t) := by rw [← Array.getElem?_toList, l]; rfl
    refine ⟨.int n t :: fs, PySem.W.KatTups.cons ho hc hd e0 h1, by rw [List.length_cons, List.length_cons, h2], fun f hm => ?_⟩
    rcases List.mem_cons.mp hm with rfl | hm
    · exact ⟨n, t, rfl⟩
    · exact h3 f hm
theorem sh_kind {b : Bool} {vs : List Value} {Q : SortKind → Shared → Prop} {E : Value → Shared → Prop} (h0 : 0 < vs.length) (hp : ∀ v ∈ vs, RSh s.heap b v) (hq : Q (tuples' true) s) : wpAny (model prog w) A (keyKind' vs.toArray) Q E s := by
  obtain ⟨fs, h1, h2, h3⟩ := sh_firsts hp
  refine PySem.W.kat_kind (T := .type "int") h1 (by omega) (fun f hm => ?_) (by rfl) ?_
  · obtain ⟨x, t, rfl⟩ := h3 f hm
    exact PySem.W.Looks.now
  · have e : (Value.type "int" != Value.type "tuple") = true := by first | decide +kernel | rfl | decide
    rw [e]
    exact hq
theorem sh_sortable {b : Bool} {a : Addr} {vs : List Value} (hu : A.units + 2 < cLine) (h0 : 0 < vs.length) (hp : ∀ v ∈ vs, RSh s.heap b v) (ha : ∀ o, s.heap.get? a = some o → o.cls ≠ .type "tuple") : Srt.Sortable prog w A s a vs := by
  intro h' keep
  have hp' : ∀ v ∈ vs, RSh h' b v := fun v hm => (hp v hm).keeps fun b o e c => keep b o (fun z => by subst z; exact ha o e c) e
  exact ⟨tuples' true, fun Q E hq => sh_kind h0 hp' hq, sh_tot hu fun p hm => hp' p.1 hm⟩
end
/-! ### over data -/
def ShT : Bool → Dt → Prop
  | false, d => ∃ (i : Int) (l : List Int), d = .tup ((i :: l).map Dt.int)
  | true, d => ∃ (a b : Int) (l : List Int) (c : Int), d = .tup [.int a, .int b, .tup (l.map Dt.int), .int c]
section
variable {X : Cx} {pins : List (Addr × Obj)} {σ : L2.St} {H : Hp} {s : Shared} {v : V} {u : Value} {d : Dt} {b : Bool} {K : PySem.W.Frag}
theorem raw_ints {xs : List V} {us : List Value} {l : List Int} (h : ImAll X.K H xs (l.map Dt.int)) (r : Vals xs us) : ∀ x ∈ us, RInt x := by
  rw [h.to_ints] at r
  intro x hx
  clear h
  induction l generalizing us with
  | nil =>
    cases r
    cases hx
  | cons i l ih =>
    cases r with
    | cons h1 h2 =>
      obtain ⟨t, rfl⟩ := h1
      rcases List.mem_cons.mp hx with e | hx
      · exact ⟨i, t, e⟩
      · exact ih h2 hx
theorem sh_raw (I : Inv X pins σ H s) (h : Im X.K H v d) (hs : ShT b d) (r : RelV v u) : RSh s.heap b u := by
  cases b with
  | false =>
    obtain ⟨i, l, rfl⟩ := hs
    cases h with
    | tup h1 h2 =>
      obtain ⟨its, rv, ht, _⟩ := I.tuple h1
      cases r
      cases h2 with
      | cons h3 h4 =>
        cases h3
        cases rv with
        | cons r1 r2 =>
          obtain ⟨t, rfl⟩ := r1
          exact ⟨_, _, i, t, _, rfl, ht, rfl, raw_ints h4 r2⟩
  | true =>
    obtain ⟨a, b, l, c, rfl⟩ := hs
    cases h with
    | tup h1 h2 =>
      obtain ⟨its, rv, ht, _⟩ := I.tuple h1
      cases r
      cases h2 with
      | cons h3 h4 =>
        cases h4 with
        | cons h5 h6 =>
          cases h6 with
          | cons h7 h8 =>
            cases h8 with
            | cons h9 h10 =>
              cases h10
              cases h3
              cases h5
              cases h9
              cases h7 with
              | tup s1 s2 =>
                obtain ⟨its2, rv2, ht2, _⟩ := I.tuple s1
                cases rv with
                | cons r1 r2 =>
                  cases r2 with
                  | cons r3 r4 =>
                    cases r4 with
                    | cons r5 r6 =>
                      cases r6 with
                      | cons r7 r8 =>
                        cases r8
                        obtain ⟨t1, rfl⟩ := r1
                        obtain ⟨t2, rfl⟩ := r3
                        obtain ⟨t3, rfl⟩ := r7
                        cases r5
                        exact ⟨_, _, a, t1, b, t2, _, c, t3, rfl, ht, rfl, _, _, rfl, ht2, raw_ints s2 rv2⟩
theorem ImAll.perm {vs vs' : List V} (p : vs'.Perm vs) : ∀ {ds : List Dt}, ImAll K H vs ds → ∃ ds' : List Dt, ds'.Perm ds ∧ ImAll K H vs' ds' := by
  induction p with
  | nil => exact fun h => ⟨_, List.Perm.refl _, h⟩
  | cons x _ ih =>
    intro ds h
    cases h with
    | cons h1 h2 =>
      obtain ⟨es, p1, p2⟩ := ih h2
      exact ⟨_, p1.cons _, .cons h1 p2⟩
  | swap x y l =>
    intro ds h
    cases h with
    | cons h1 h2 =>
      cases h2 with
      | cons h3 h4 => exact ⟨_, List.Perm.swap .., .cons h3 (.cons h1 h4)⟩
  | trans _ _ ih1 ih2 =>
    intro ds h
    obtain ⟨es, p1, p2⟩ := ih2 h
    obtain ⟨fs, p3, p4⟩ := ih1 p2
    exact ⟨fs, p3.trans p1, p4⟩
theorem sh_raws (I : Inv X pins σ H s) : ∀ {xs : List V} {us : List Value} {ds : List Dt}, ImAll X.K H xs ds → (∀ d ∈ ds, ShT b d) → Vals xs us → ∀ u ∈ us, RSh s.heap b u
  | _, _, _, .nil, _, r => fun u hu => by
    cases r
    cases hu
  | _, _, _, .cons h1 h2, hs, r => fun u hu => by
    cases r with
    | cons r1 r2 =>
      rcases List.mem_cons.mp hu with rfl | hu
      · exact sh_raw I h1 (hs _ (List.mem_cons_self ..)) r1
      · exact sh_raws I h2 (fun d hd => hs d (List.mem_cons_of_mem _ hd)) r2 u hu
theorem im_refs : ∀ {xs : List V} {ds : List Dt}, ImAll K H xs ds → (∀ d ∈ ds, ∃ es, d = .tup es) → ∀ x ∈ xs, ∃ a, x = V.ref a
  | _, _, .nil, _ => fun x hx => by cases hx
  | _, _, .cons h1 h2, hs => fun x hx => by
    rcases List.mem_cons.mp hx with rfl | hx
    · obtain ⟨es, rfl⟩ := hs _ (List.mem_cons_self ..)
      cases h1
      exact ⟨_, rfl⟩
    · exact im_refs h2 (fun d hd => hs d (List.mem_cons_of_mem _ hd)) x hx
end
/-- sorted of a list of tuples of ints -/
def rSortT (K : PySem.W.Frag) : List V → Hp → VK → Prop := fun vs H Q => ∃ (a : Addr) (ds : List Dt), vs = [V.ref a] ∧ LsR K H a ds ∧ (∀ d ∈ ds, ShT false d) ∧ ∀ p H' es, Ext H H' → H p = none → es.Perm ds → LsM K H' p es → Q (.ref p) H'
theorem call_sortT {X : Cx} (hu : X.A.units + 10 < cLine) : CallR X (.builtin "sorted") (rSortT X.K) := by
  intro pins s σ H vs us Q I r h
  obtain ⟨a, ds, rfl, ⟨xs, hs, hx⟩, hd, q⟩ := h
  obtain rfl := Vals.ref1 r
  obtain ⟨its, rv, hl, hz⟩ := I.list hs
  obtain ⟨e1, e2⟩ := refs_back rv (im_refs hx fun d h => by
    obtain ⟨i, l, e⟩ := hd d h
    exact ⟨_, e⟩)
  have hr := sh_raws I hx hd rv
  refine Srt.sorted_any hl.isList (by rw [← rv.length]; exact hz) (fun h2 h₁ a' ha k => ?_) fun out hp => ?_
  · refine sh_sortable (s := { s with heap := h₁ }) (b := false) (by show X.A.units + 1 + 1 + 2 < _; omega) (by omega) (fun v hm => (hr v hm).keeps fun b o e _ => (k b o e).2) fun o e => ?_
    have e' : some o = some (seqObj "list" its.toArray 0) := e.symm.trans ha
    cases e'
    intro c
    exact absurd (Value.type.inj c) (by decide)
  · obtain ⟨ep, he'⟩ := PyProof.Rows.sortedAll_at s.heap its out.toArray
    have hb : (out.map backV).Perm xs := by
      rw [e1]
      exact hp.map backV
    have hlen : (out.map backV).length ≤ sizeLine := by
      rw [hb.length_eq]
      exact hz
    have hfr := I.hok.fresh (Nat.le_succ s.heap.objs.size)
    obtain ⟨es, p1, p2⟩ := hx.perm hb
    have e4 : Ext H (upd H (s.heap.objs.size + 1) (.lst (out.map backV))) := Ext.new hfr
    exact ⟨.ref _, upd H (s.heap.objs.size + 1) (.lst (out.map backV)), I.laid (t' := s.toks) (fun _ _ => PyProof.Rows.sortedAll_old) (Nat.le_succ _) ⟨hlen, out, ep, vals_back fun u hu => e2 u (hp.mem_iff.mp hu), he'⟩, rfl, q _ _ es e4 hfr p1 ⟨_, upd_same, p2.to e4.kp⟩⟩
end K29
set_option Elab.async false
set_option linter.all false
set_option maxRecDepth 100000
set_option maxHeartbeats 4000000
/-! sorted(l, key=f), f a def of ours that hands back a tuple -/
namespace K29
open PySem PySem.Spec PyProof.Rows L2
/-- sorted(l, key=f): the items of l in some order -/
def rSortK (K : PySem.W.Frag) (TL : List Addr) (R : List Dt → Dt → Prop) (f : Addr) : List V → List V → Hp → VK → Prop := fun vs zs H Q =>
  ∃ (a : Addr) (ds ks : List Dt), vs = [V.ref a] ∧ zs = [V.ref f] ∧ LsR K H a ds ∧ (∀ d ∈ ds, ∃ es, d = .tup es) ∧ Tabs TL H ∧ ks.length = ds.length ∧ (∀ (i : Nat) d k, ds[i]? = some d → ks[i]? = some k → R [d] k ∧ ShT true k) ∧
  ∀ p H' es, Ext H H' → H p = none → es.Perm ds → LsM K H' p es → Q (.ref p) H'
section
variable {X : Cx} {pins : List (Addr × Obj)} {σ : L2.St} {H : Hp} {s : Shared}
theorem Inv.addPin {p : Addr × Obj} (I : Inv X pins σ H s) (h : s.heap.get? p.1 = some p.2 ∧ H p.1 = none ∧ p.1 ≠ X.env.locals ∧ p.1 ∉ X.fs ∧ ∀ v, p.2.data ≠ .cell v) : Inv X (p :: pins) σ H s :=
  ⟨I.ok, I.os, I.bare, I.base, I.loc, I.cell, I.free, I.freeC, fun q hq => by
    rcases List.mem_append.mp hq with m | m
    · exact I.pin q (List.mem_append_left _ m)
    · rcases List.mem_cons.mp m with rfl | m
      · exact h
      · exact I.pin q (List.mem_append_right _ m), I.hok, I.len⟩
theorem Inv.delPin {p : Addr × Obj} (I : Inv X (p :: pins) σ H s) : Inv X pins σ H s :=
  ⟨I.ok, I.os, I.bare, I.base, I.loc, I.cell, I.free, I.freeC, fun q hq => by
    rcases List.mem_append.mp hq with m | m
    · exact I.pin q (List.mem_append_left _ m)
    · exact I.pin q (List.mem_append_right _ (List.mem_cons_of_mem _ m)), I.hok, I.len⟩
theorem take_snoc' {α : Type} {l : List α} {i : Nat} {x : α} (h : l[i]? = some x) : l.take (i + 1) = l.take i ++ [x] := by
  rw [List.take_add_one, h]
  rfl
theorem call_sortK {k : Nat} {f : Addr} {fd : FuncData} {ps : List Str} {TL : List Addr} {R : List Dt → Dt → Prop} (F : FnOk X.prog X.w X.K X.mg X.base CX0 k f fd ps (SpF X.K TL R)) (hr : Room (k + 2) X.A) (hb : Binds X.K fd ps []) :
    CallRK X (.builtin "sorted") [Str.ofString "key"] (rSortK X.K TL R f) := by
  intro pins s σ H vs zs us ws Q I r rz h
  obtain ⟨a, ds, ks, rfl, rfl, ⟨xs, hs, hx⟩, href, hT, hkl, hR, q⟩ := h
  obtain rfl := Vals.ref1 r
  obtain ⟨w1, rfl, e1⟩ := vals1 rz
  cases e1
  obtain ⟨its, rv, hl, hz⟩ := I.list hs
  obtain ⟨er1, er2⟩ := refs_back rv (im_refs hx href)
  have hlen : its.length = ds.length := by rw [← rv.length, hx.length]
  have hz' : its.length ≤ sizeLine := by rw [← rv.length]; exact hz
  have hsl : sizeLine = sizeLine := rfl
  have hu := hr.un
  refine call_function_entry_kw kind_sorted plain_sorted entry_sorted (PyProof.Rows.ksk_s1 _ _) ?_
  unfold Builtin.«sorted»
  refine wpAny_bind (m := checkCount "sorted" 1 1 _) (wpAny_pure ?_)
  refine wpAny_bind (collect_list hl.isList ?_ hz')
  refine wpAny_bind (wpAny_newList ?_ hz')
  have hsz : ((s.heap.push (seqObj "list" #[] 0)).update s.heap.objs.size (Obj.mapSeq (· ++ its.toArray))).objs.size = s.heap.objs.size + 1 := by
    rw [Heap.size_update, size_push']
  have hoL : (((s.heap.push (seqObj "list" #[] 0)).update s.heap.objs.size (Obj.mapSeq (· ++ its.toArray))).push (seqObj "list" its.toArray 0)).get? (s.heap.objs.size + 1) = some (seqObj "list" its.toArray 0) := by
    rw [← hsz]; exact Heap.get?_push_size _ rfl
  have keep : ∀ b o, s.heap.get? b = some o → (((s.heap.push (seqObj "list" #[] 0)).update s.heap.objs.size (Obj.mapSeq (· ++ its.toArray))).push (seqObj "list" its.toArray 0)).get? b = some o := fun b o q => by
    have hlt : b < s.heap.objs.size := Heap.lt_size q
    refine Heap.get?_push_of_some _ ?_
    rw [Heap.get?_update_ne _ _ _ _ (Nat.ne_of_lt hlt)]
    exact Heap.get?_push_of_some _ q
  show wpAny _ _ _ _ _ { s with heap := ((s.heap.push (seqObj "list" #[] 0)).update s.heap.objs.size (Obj.mapSeq (· ++ its.toArray))).push (seqObj "list" its.toArray 0) }
  rw [hsz]
  have fp : FpOk X pins H (s.heap.objs.size + 1) := I.fpOk (Nat.le_succ _) (I.hok.fresh (Nat.le_succ _))
  have hge : s.heap.objs.size ≤ s.heap.objs.size + 1 := Nat.le_succ _
  have I1 : Inv X pins σ H { s with heap := ((s.heap.push (seqObj "list" #[] 0)).update s.heap.objs.size (Obj.mapSeq (· ++ its.toArray))).push (seqObj "list" its.toArray 0) } := I.kept (t' := s.toks) keep
  generalize hD : s.heap.objs.size + 1 = D at hoL fp hge
  generalize ((s.heap.push (seqObj "list" #[] 0)).update s.heap.objs.size (Obj.mapSeq (· ++ its.toArray))).push (seqObj "list" its.toArray 0) = h1 at hoL I1
  clear keep hsz
  refine wpAny_bind (wpAny_holding (wpAny_call_entry_kw slot_list_sort ⟨_, hoL, rfl⟩ entry_list_sort ?body (PyProof.Rows.ksk_l1 _ _)))
  case body =>
    show wpAny (model X.prog X.w) X.A.in1.in1 (Builtin.«list.sort» ⟨[.ref D], [(Str.ofString "key", .ref f)]⟩) _ _ _
    rw [ksk_t1]
    unfold ksk_tree
    refine wpAny_bind (listItems_at hoL rfl ?_)
    refine wpAny_bind (listUpdate_at hoL rfl ?_ (by rw [List.size_toArray]; exact hz') (Nat.zero_le _))
    obtain ⟨n1, ho1⟩ : ∃ n1, (h1.update D (Obj.mapSeq fun _ => (#[] : Array Value))).get? D = some (seqObj "list" #[] n1) := ⟨_, get?_update_seq hoL fun _ => #[]⟩
    have I2 : Inv X pins σ H { s with heap := h1.update D (Obj.mapSeq fun _ => (#[] : Array Value)) } :=
      L2.Inv.turned (s := { s with heap := h1 }) I1 (t' := s.toks) (it := D) (fun b o hb e => (Heap.get?_update_ne _ _ _ _ hb).trans e) fp.1 fp.2.1 fp.2.2.2.1 fp.2.2.2.2.1 fp.2.2.2.2.2
    generalize h1.update D (Obj.mapSeq fun _ => (#[] : Array Value)) = h2 at ho1 I2
    refine wpAny_bind (seqEpoch_at ho1 rfl ?_)
    refine wpAny_bind (wpAny_newTuple ?_ hz')
    have I3 : Inv X pins σ H { s with heap := h2.push { cls := .type "tuple", data := .seq its.toArray } } := I2.kept (t' := s.toks) fun b o e => Heap.get?_push_of_some _ e
    have ho3 : (h2.push { cls := .type "tuple", data := .seq its.toArray }).get? D = some (seqObj "list" #[] n1) := Heap.get?_push_of_some _ ho1
    have e0 : its.toArray.toList.toArray = its.toArray := rfl
    show wpAny _ _ _ _ _ { s with heap := h2.push { cls := .type "tuple", data := .seq its.toArray } }
    generalize h2.push { cls := .type "tuple", data := .seq its.toArray } = h3 at ho3 I3
    refine wpAny_bind (wpAny_newList ?_ (Nat.zero_le _))
    have hk0 : H h3.objs.size = none := I3.fresh
    have I4 : Inv X pins σ (upd H h3.objs.size (.lst [])) { s with heap := h3.push { cls := .type "list", data := .seq ([] : List Value).toArray } } := I3.lnew (its := []) (ys := []) (t' := s.toks) .nil (Nat.zero_le _)
    have ho4 : (h3.push { cls := .type "list", data := .seq ([] : List Value).toArray }).get? D = some (seqObj "list" #[] n1) := Heap.get?_push_of_some _ ho3
    have hkD : h3.objs.size ≠ D := Nat.ne_of_gt (Heap.lt_size ho3)
    show wpAny _ _ _ _ _ { s with heap := h3.push { cls := .type "list", data := .seq ([] : List Value).toArray } }
    have eL : Ext H (upd H h3.objs.size (.lst [])) := Ext.new hk0
    have hkk : upd H h3.objs.size (.lst []) h3.objs.size = some (.lst []) := upd_same
    have hDn : upd H h3.objs.size (.lst []) D = none := by rw [upd_ne (Ne.symm hkD)]; exact fp.1
    generalize upd H h3.objs.size (.lst []) = H4 at I4 eL hkk hDn
    generalize h3.push { cls := .type "list", data := .seq ([] : List Value).toArray } = h4 at I4 ho4
    generalize h3.objs.size = kS at hk0 hkD hkk
    have I5 : Inv X ((D, seqObj "list" #[] n1) :: pins) σ H4 { s with heap := h4 } := Inv.addPin I4 ⟨ho4, hDn, fp.2.1, fp.2.2.1, fun v z => by cases z⟩
    refine wpAny_holding ?_
    unfold ksk_rest
    refine wpAny_bind (wpAny_rule ?_)
    rw [List.forIn_toArray]
    refine wpAny_bind (ksk_fold (fun i s' => ∃ H' kvs, Inv X ((D, seqObj "list" #[] n1) :: pins) σ H' s' ∧ Ext H H' ∧ H' kS = some (.lst kvs) ∧ ImAll X.K H' kvs (ks.take i)) its 0 _ ⟨H4, [], I5, eL, hkk, .nil⟩ ?step ?done)
    case step =>
      rintro j x s' hj ⟨H', kvs, J, eJ, hk, hv⟩
      rw [Nat.zero_add] at hv ⊢
      have hj1 : j < its.length := (List.getElem?_eq_some_iff.mp hj).1
      obtain ⟨d, hd⟩ : ∃ d, ds[j]? = some d := ⟨_, List.getElem?_eq_getElem (by omega)⟩
      obtain ⟨kk, hkj⟩ : ∃ kk, ks[j]? = some kk := ⟨_, List.getElem?_eq_getElem (by omega)⟩
      obtain ⟨y', hy, hyd⟩ := hx.get hd
      obtain ⟨x', hx', ry⟩ := rv.get hy
      obtain rfl : x' = x := by
        rw [hj] at hx'
        exact (Option.some.inj hx').symm
      have hEnv := (J.env0).in1.in1
      have r2 : Vals [y'] [x'] := .cons ry .nil
      have hcall := F.run X.A.in1.in1 X.stack s' H' ⟨[x'], []⟩ ([x'] ++ []) [y'] (fun v H2 => Ext H' H2 ∧ Im X.K H2 v kk) (fun _ _ _ => False) hr.in1.in1 hEnv (hb s' [x'] J.kIn (by
          rw [List.append_nil]
          exact F.len [y'] H' (fun _ _ => True) (fun _ _ _ => False) ⟨[d], kk, .cons (hyd.to eJ.kp) .nil, hT.to eJ.kp, (hR j d kk hd hkj).1, fun _ _ _ _ => trivial⟩)) r2
        ⟨[d], kk, .cons (hyd.to eJ.kp) .nil, hT.to eJ.kp, (hR j d kk hd hkj).1, fun v H2 e2 hv => ⟨e2, hv⟩⟩
      have hc2 : wpAny (model X.prog X.w) X.A.in1.in1 (call (.ref f) [x']) (fun u s'' => EP X ((D, seqObj "list" #[] n1) :: pins) σ (fun v H2 => Ext H' H2 ∧ Im X.K H2 v kk) u s'') (fun _ _ => False) s' := by
        refine wpAny_call (codeAny_mono hcall fun r s'' hq => ?_)
        cases r with
        | error e => exact (show False from hq.elim)
        | ok fl =>
          cases fl with
          | ret u => exact J.after hq
          | next => exact False.elim hq
          | brk => exact False.elim hq
          | cont => exact False.elim hq
      refine wpAny_bind (wpAny_attempt (wpAny_mono hc2 (fun u s'' hu => ?_) fun _ _ hF => hF.elim))
      obtain ⟨v, H2, J2, rv2, eJ2, hv2⟩ := hu
      have hk2 := eJ2.get hk
      obtain ⟨kits, kn, kr, ko, kz⟩ := J2.lst hk2
      have hlk : kits.length ≤ its.length := by
        rw [← kr.length, hv.length, List.length_take]
        omega
      have hlk2 : kits.length < its.length := by
        rw [← kr.length, hv.length, List.length_take]
        omega
      try dsimp only
      refine wpAny_bind (listUpdate_at ko rfl ?_ (by rw [List.size_toArray]; omega) (by rw [Array.size_push, List.size_toArray]; omega))
      have J3 : Inv X ((D, seqObj "list" #[] n1) :: pins) σ (upd H2 kS (.lst (kvs ++ [v]))) { s'' with heap := s''.heap.update kS (Obj.mapSeq (·.push u)) } :=
        J2.lset (its' := kits ++ [u]) (t' := s''.toks) hk2 ko (by simp) (kr.append (.cons rv2 .nil)) (by rw [List.length_append, List.length_singleton, kr.length]; omega)
      have c3 : Chg [kS] H2 (upd H2 kS (.lst (kvs ++ [v]))) := Chg.put hk2
      have e3 : Ext H (upd H2 kS (.lst (kvs ++ [v]))) := Chg.new ((eJ.trans eJ2).chg.trans c3) hk0
      refine wpAny_pure ⟨rfl, _, _, J3, e3, upd_same, ?_⟩
      rw [take_snoc' hkj]
      exact (hv.to eJ2.kp |>.append (.cons hv2 .nil)).to c3.kp
    case done =>
      rintro s' ⟨H', kvs, J, eJ, hk, hv⟩
      rw [Nat.zero_add, hlen, ← hkl, List.take_length] at hv
      obtain ⟨kits, kn, kr, ko, kz⟩ := J.lst hk
      have pin := J.pin (D, seqObj "list" #[] n1) (List.mem_append_right _ (List.mem_cons_self ..))
      try dsimp only
      refine wpAny_bind (listItems_at ko rfl ?_)
      have hkl2 : kits.length = its.length := by rw [← kr.length, hv.length, hkl, hlen]
      have hsh : ∀ u ∈ kits, RSh s'.heap true u := sh_raws J hv (fun d hd => by
        obtain ⟨i, hi, e⟩ := List.mem_iff_getElem.mp hd
        exact (hR i (ds[i]'(by omega)) d (List.getElem?_eq_getElem (by omega)) (by rw [List.getElem?_eq_getElem hi, e])).2) kr
      have fin : ∀ st' : SortSt, (arrOf st').Perm (kits.toArray.zip its.toArray) → failedOf st' = none → wpAny (model X.prog X.w) X.A.in1.in1 (ksk_tail D false n1 (.ref kS) st') (fun fin s' => ∃ v, fin = .done (.ret v) ∧ wpAny (model X.prog X.w) X.A.in1 (pure ((.done (.ret (.ref D))) : PySem.Fin)) (fun fin s' => ∃ v, fin = .done (.ret v) ∧ EP X pins σ Q v s') X.xe s') X.xe s' := by
        intro st' hp hf
        have hp2 := Array.perm_iff_toList_perm.mp hp
        have ez : (kits.toArray.zip its.toArray).toList = kits.zip its := PyProof.Rows.ksk_zip _ _
        have hout : ((arrOf st').map (·.2)).toList.Perm its := by
          rw [Array.toList_map]
          have h1 := hp2.map (fun p : Keyed => p.2)
          rw [ez] at h1
          have e2 : (kits.zip its).map (fun p : Keyed => p.2) = its := List.map_snd_zip (by omega)
          rw [e2] at h1
          exact h1
        have hos : ((arrOf st').map (·.2)).size = its.length := by
          rw [← Array.length_toList]
          exact hout.length_eq
        unfold ksk_tail
        try dsimp only
        refine wpAny_bind (listUpdate_at ko rfl ?_ (by rw [List.size_toArray]; omega) (Nat.zero_le _))
        have J3 : Inv X ((D, seqObj "list" #[] n1) :: pins) σ (upd H' kS (.lst [])) { s' with heap := s'.heap.update kS (Obj.mapSeq fun _ => (#[] : Array Value)) } :=
          J.lset (its' := []) (t' := s'.toks) hk ko rfl .nil (Nat.zero_le _)
        have c3 : Chg [kS] H' (upd H' kS (.lst [])) := Chg.put hk
        have e3 : Ext H (upd H' kS (.lst [])) := Chg.new (eJ.chg.trans c3) hk0
        have pin3 := J3.pin (D, seqObj "list" #[] n1) (List.mem_append_right _ (List.mem_cons_self ..))
        refine wpAny_bind (wpAny_letGo ?_)
        refine wpAny_bind (seqEpoch_at pin3.1 rfl ?_)
        refine wpAny_bind (listUpdate_at pin3.1 rfl ?_ (Nat.zero_le _) (by simp only [Bool.false_eq_true, if_false]; omega))
        rw [hf]
        simp only [bne_self_eq_false, Bool.false_eq_true, if_false]
        have J4 := Inv.delPin J3
        have hb2 : (((arrOf st').map (·.2)).toList.map backV).Perm xs := by
          rw [er1]
          exact hout.map backV
        obtain ⟨es, p1, p2⟩ := hx.perm hb2
        obtain ⟨n5, ho5⟩ : ∃ n5, ((s'.heap.update kS (Obj.mapSeq fun _ => (#[] : Array Value))).update D (Obj.mapSeq fun _ => (arrOf st').map (·.2))).get? D = some (seqObj "list" ((arrOf st').map (·.2)) n5) := ⟨_, get?_update_seq pin3.1 fun _ => (arrOf st').map (·.2)⟩
        have J5 : Inv X pins σ (upd (upd H' kS (.lst [])) D (.lst (((arrOf st').map (·.2)).toList.map backV))) { s' with heap := (s'.heap.update kS (Obj.mapSeq fun _ => (#[] : Array Value))).update D (Obj.mapSeq fun _ => (arrOf st').map (·.2)) } :=
          J4.take (t' := s'.toks) (it := D) (fun b o hb e => (Heap.get?_update_ne _ _ _ _ hb).trans e) ⟨pin3.2.1, fp.2⟩
            ⟨by rw [hb2.length_eq]; exact hz, _, n5, vals_back fun u hu => er2 u (hout.mem_iff.mp hu), by rw [Array.toArray_toList]; exact ho5⟩
        have e5 : Ext H (upd (upd H' kS (.lst [])) D (.lst (((arrOf st').map (·.2)).toList.map backV))) := e3.trans (Ext.new pin3.2.1)
        exact wpAny_pure ⟨.none, rfl, wpAny_pure ⟨_, rfl, .ref D, _, J5, rfl, q D _ es e5 fp.1 p1 ⟨_, upd_same, p2.to e5.kp⟩⟩⟩
      unfold ksk_end
      try dsimp only
      have step : ∀ (u : Sem PySem.Fin) (Q' : PySem.Fin → Shared → Prop), wpAny (model X.prog X.w) X.A.in1.in1 u Q' X.xe s' → wpAny (model X.prog X.w) X.A.in1.in1 (if false = true then (do let _ ← rule "list.sort.reverse"; u) else u) Q' X.xe s' := fun u Q' hu => by
        rw [if_neg Bool.false_ne_true]
        exact hu
      refine step _ _ ?_
      by_cases h2 : its.toArray.size < 2
      · rw [if_pos h2, if_pos h2]
        refine wpAny_bind (wpAny_pure ?_)
        rw [StateT.run_pure]
        refine wpAny_bind (wpAny_pure ?_)
        try dsimp only
        exact fin (SortSt.mk' general' (kits.toArray.zip its.toArray) #[] 7 none) (Array.Perm.refl _) rfl
      · rw [if_neg h2, if_neg h2]
        rw [List.size_toArray] at h2
        refine wpAny_bind (sh_kind (b := true) (by omega) hsh ?_)
        have hT2 : Srt.Tot X.prog X.w X.A.in1.in1 s' (tuples' true) (fun p => p.1 ∈ kits) := sh_tot (b := true) (by show X.A.units + 1 + 1 + 2 < _; omega) fun p hp => hsh p.1 hp
        have hall : Srt.AllP (fun p : Keyed => p.1 ∈ kits) (kits.toArray.zip its.toArray) := fun p hm => by
          rw [PyProof.Rows.ksk_zip] at hm
          obtain ⟨x, y⟩ := p
          exact (List.of_mem_zip hm).1
        refine wpAny_bind (wpAny_mono (Srt.wpS_sortAny (st0 := SortSt.mk' (tuples' true) (kits.toArray.zip its.toArray) #[] 7 none)
          (Q := fun _ st' => (arrOf st').Perm (kits.toArray.zip its.toArray) ∧ failedOf st' = none) hT2 rfl hall rfl rfl fun st' a1 a2 => ⟨a1, a2⟩) ?_ fun _ _ e => e)
        rintro ⟨⟨⟩, st'⟩ s'' ⟨rfl, hp, hf⟩
        try dsimp only
        exact fin st' hp hf
end
end K29
set_option Elab.async false
set_option linter.all false
set_option maxRecDepth 100000
set_option maxHeartbeats 4000000
/-! list comprehensions over data, += of lists, enumerate -/
namespace K29
open PySem PySem.Spec PyProof.Rows L2
section
variable {K : PySem.W.Frag} {H H' H0 H1 H2 : Hp} {σ : L2.St} {v x y z : V} {a b c d : Dt} {ds es : List Dt} {te ti ta tb : TE} {g : TG} {tt : TT} {vs : List Nat} {D : Ends} {tz : TS}
theorem et_yes : EdT tYes σ H true := fun H1 _ Q q => q H1 (Ext.refl H1)
/-- the block of a comprehension at an item: acc the items before, acc' behind -/
def LcStep (K : PySem.W.Frag) (g : TG) (tt : TT) (te : TE) (vs : List Nat) (σ : L2.St) (H : Hp) (v : V) (acc acc' : List Dt) : Prop :=
  g v (wipe σ vs) H fun σ2 H2 => wipe σ2 vs = wipe σ vs ∧ Ext H H2 ∧ ∃ k, EdT tt σ2 H2 k ∧ (k = true → ∃ e, acc' = acc ++ [e] ∧ Ed K te σ2 H2 e) ∧ (k = false → acc' = acc)
/-- readings of targets pass on what follows -/
def GMono (g : TG) : Prop := ∀ v σ H (Q Q' : L2.St → Hp → Prop), g v σ H Q → (∀ σ2 H2, Q σ2 H2 → Q' σ2 H2) → g v σ H Q'
theorem gm_name {i : Nat} : GMono (gName i) := fun v σ H Q Q' h k => k _ _ h
theorem lc_turn (hg : GMono g) {Dn : Addr} {acc acc' : List Dt} (h : LcStep K g tt te vs σ H v acc acc') (hn : H0 Dn = none) (e0 : Ext H0 H) (hl : LsM K H Dn acc) (hz : acc.length < 1000000) :
    g v (wipe σ vs) H fun σ2 H2 => wipe σ2 vs = wipe σ vs ∧ tt σ2 H2 fun b H3 => if b = true then te σ2 H3 fun y H4 => ∃ xs, H4 Dn = some (.lst xs) ∧ xs.length < sizeLine ∧ (Ext H0 (upd H4 Dn (.lst (xs ++ [y]))) ∧ LsM K (upd H4 Dn (.lst (xs ++ [y]))) Dn acc') else Ext H0 H3 ∧ LsM K H3 Dn acc' := by
  refine hg _ _ _ _ _ h fun σ2 H2 q => ⟨q.1, ?_⟩
  obtain ⟨_, e2, k, h1, h2, h3⟩ := q
  refine h1 H2 (Ext.refl _) _ fun H3 e3 => ?_
  cases k with
  | false =>
    rw [if_neg Bool.false_ne_true, h3 rfl]
    exact ⟨e0.trans (e2.trans e3), hl.to (e2.trans e3)⟩
  | true =>
    rw [if_pos rfl]
    obtain ⟨e, rfl, h4⟩ := h2 rfl
    refine h4 H3 e3 _ fun y H4 e4 hy => ?_
    obtain ⟨xs, x1, x2⟩ := hl.to (e2.trans (e3.trans e4))
    exact ⟨xs, x1, Nat.lt_of_lt_of_le (by rw [x2.length]; exact hz) (by decide), (((e0.trans (e2.trans (e3.trans e4))).chg.trans (Chg.put x1)).new hn), LsM.app x2 hy x1⟩
/-- over a tuple -/
theorem en_lcT (h : Ed K ti σ H (.tup ds)) (hg : GMono g) (acc : Nat → List Dt) (h0 : acc 0 = []) (hz : ∀ j, j < ds.length → (acc j).length < 1000000)
    (hs : ∀ j v d H', Ext H H' → ds[j]? = some d → Im K H' v d → LcStep K g tt te vs σ H' v (acc j) (acc (j + 1))) : EdN K (tLc (iTup K ti) g tt te vs) σ H (acc ds.length) := fun H1 e Q q =>
  h H1 e _ fun v H2 e2 hv => by
    cases hv with
    | tup s1 s2 =>
      rename_i a xs
      have hl := s2.length
      refine ⟨a, rfl, ⟨xs, s1⟩, fun Dn hD => ?_⟩
      have e3 : Ext H2 (upd H2 Dn (.lst [])) := Ext.new hD
      refine lc_tup (fun i H' => Ext H2 H' ∧ LsM K H' Dn (acc i)) ⟨e3, by rw [h0]; exact ⟨[], upd_same, .nil⟩⟩ (fun i H' _ p => p.1.kp.sqT s1) (fun i x H' hx p => ?_) fun H' p => q _ H' (e2.trans p.1) (e2.free hD) (hl ▸ p.2)
      obtain ⟨d, hd, hxd⟩ := s2.getv hx
      exact lc_turn hg (hs i x d H' ((e.trans e2).trans p.1) hd (hxd.to p.1.kp)) hD p.1 p.2 (hz i (by rw [← hl]; exact (List.getElem?_eq_some_iff.mp hx).1))
/-- over a list of any values -/
theorem en_lcV {l : Addr} {xs : List V} (h : EdV ti σ H (.ref l)) (hl : SqL K H l xs) (hg : GMono g) (acc : Nat → List Dt) (h0 : acc 0 = []) (hz : ∀ j, j < xs.length → (acc j).length < 1000000)
    (hs : ∀ j v H', Ext H H' → xs[j]? = some v → LcStep K g tt te vs σ H' v (acc j) (acc (j + 1))) : EdN K (tLc (iList K ti) g tt te vs) σ H (acc xs.length) := fun H1 e Q q =>
  h H1 e _ fun H2 e2 => by
    have s1 := (e.trans e2).seqL hl
    refine ⟨l, rfl, ⟨xs, s1⟩, fun Dn hD => ?_⟩
    have e3 : Ext H2 (upd H2 Dn (.lst [])) := Ext.new hD
    refine lc_list (fun i H' => Ext H2 H' ∧ LsM K H' Dn (acc i)) ⟨e3, by rw [h0]; exact ⟨[], upd_same, .nil⟩⟩ (fun i H' _ p => p.1.seqL s1) (fun i x H' hx p => ?_) fun H' p => q _ H' (e2.trans p.1) (e2.free hD) p.2
    exact lc_turn hg (hs i x H' ((e.trans e2).trans p.1) hx) hD p.1 p.2 (hz i (List.getElem?_eq_some_iff.mp hx).1)
/-- over a list of data -/
theorem en_lcL (h : EdL K ti σ H ds) (hg : GMono g) (acc : Nat → List Dt) (h0 : acc 0 = []) (hz : ∀ j, j < ds.length → (acc j).length < 1000000)
    (hs : ∀ j v d H', Ext H H' → ds[j]? = some d → Im K H' v d → LcStep K g tt te vs σ H' v (acc j) (acc (j + 1))) : EdN K (tLc (iList K ti) g tt te vs) σ H (acc ds.length) := fun H1 e Q q =>
  h H1 e _ fun l H2 e2 hv => by
    obtain ⟨xs, s1, s2⟩ := hv
    have hl := s2.length
    refine ⟨l, rfl, ⟨xs, s1⟩, fun Dn hD => ?_⟩
    have e3 : Ext H2 (upd H2 Dn (.lst [])) := Ext.new hD
    refine lc_list (fun i H' => Ext H2 H' ∧ LsM K H' Dn (acc i)) ⟨e3, by rw [h0]; exact ⟨[], upd_same, .nil⟩⟩ (fun i H' _ p => p.1.seqL s1) (fun i x H' hx p => ?_) fun H' p => q _ H' (e2.trans p.1) (e2.free hD) (hl ▸ p.2)
    obtain ⟨d, hd, hxd⟩ := s2.getv hx
    exact lc_turn hg (hs i x d H' ((e.trans e2).trans p.1) hd (hxd.to p.1.kp)) hD p.1 p.2 (hz i (by rw [← hl]; exact (List.getElem?_eq_some_iff.mp hx).1))
/-- over range(n) -/
theorem en_lcR {n : Nat} (h : Ed K ti σ H (.int n)) (hn : n ≤ 1000000) (hg : GMono g) (acc : Nat → List Dt) (h0 : acc 0 = []) (hz : ∀ j, j < n → (acc j).length < 1000000)
    (hs : ∀ j H', Ext H H' → j < n → LcStep K g tt te vs σ H' (.int (j : Int)) (acc j) (acc (j + 1))) : EdN K (tLc (iRng1 (tCons ti tNil)) g tt te vs) σ H (acc n) := fun H1 e Q q =>
  h H1 e _ fun v H2 e2 hv => by
    cases hv
    refine ⟨n, rfl, by omega, by omega, fun Dn hD => ?_⟩
    have e3 : Ext H2 (upd H2 Dn (.lst [])) := Ext.new hD
    rw [show ((n : Int)).toNat = n by omega]
    refine lc_range (fun i H' => Ext H2 H' ∧ LsM K H' Dn (acc i)) ⟨e3, by rw [h0]; exact ⟨[], upd_same, .nil⟩⟩ (fun i H' hi p => ?_) fun H' p => q _ H' (e2.trans p.1) (e2.free hD) p.2
    have z := lc_turn hg (hs i H' ((e.trans e2).trans p.1) hi) hD p.1 p.2 (hz i hi)
    rwa [show ((0 : Int) + (i : Int)) = (i : Int) by omega]
/-- one item for each -/
theorem lc_each {i : Nat} {acc acc' : List Dt} {e : Dt} (hv : wipe ((wipe σ vs).set i (some v)) vs = wipe σ vs) (ha : acc' = acc ++ [e]) (h : Ed K te ((wipe σ vs).set i (some v)) H e) : LcStep K (gName i) tYes te vs σ H v acc acc' :=
  ⟨hv, Ext.refl H, true, et_yes, fun _ => ⟨e, ha, h⟩, fun q => by cases q⟩
/-- those that pass the test -/
theorem lc_some {i : Nat} {acc acc' : List Dt} {e : Dt} {k : Bool} (hv : wipe ((wipe σ vs).set i (some v)) vs = wipe σ vs) (ht : EdT tt ((wipe σ vs).set i (some v)) H k) (ha : acc' = if k = true then acc ++ [e] else acc)
    (h : k = true → Ed K te ((wipe σ vs).set i (some v)) H e) : LcStep K (gName i) tt te vs σ H v acc acc' :=
  ⟨hv, Ext.refl H, k, ht, fun q => ⟨e, by rw [ha, if_pos q], h q⟩, fun q => by rw [ha, q, if_neg Bool.false_ne_true]⟩
theorem take_map {α : Type} {f : α → Dt} {l : List α} {j : Nat} {x : α} (h : l[j]? = some x) : (l.take (j + 1)).map f = (l.take j).map f ++ [f x] := by
  rw [take_snoc' h, List.map_append]
  rfl
/-! l += a new list -/
theorem st_ext {i : Nat} {l : Addr} (hl : LsM K H l ds) (hx : σ[i]? = some (some (.ref l))) (h : EdN K te σ H es) (hz : ds.length + es.length ≤ 1000000) (k : ∀ H1, Chg [l] H H1 → LsM K H1 l (ds ++ es) → D.nx (σ.set i (some (.ref l))) H1) : tAug i te rExt2 D σ H := ⟨_, hx, h H (Ext.refl H) _ fun m H1 e1 hn hm => by
  obtain ⟨xs, a1, a2⟩ := hl.to e1
  obtain ⟨ys, b1, b2⟩ := hm
  exact ⟨l, m, xs, ys, rfl, rfl, a1, b1, sizeSmall (by rw [a2.length, b2.length]; exact hz), k _ (e1.chg.trans (Chg.put a1)) ⟨_, upd_same, (a2.append b2).to (Chg.put a1).kp⟩⟩⟩
theorem q_ext {i : Nat} {l : Addr} (hl : LsM K H l ds) (hx : σ[i]? = some (some (.ref l))) (h : EdN K te σ H es) (hz : ds.length + es.length ≤ 1000000) (k : ∀ H1, Chg [l] H H1 → LsM K H1 l (ds ++ es) → tz D (σ.set i (some (.ref l))) H1) : tSeq (tAug i te rExt2) tz D σ H := st_ext (D := { D with nx := tz D }) hl hx h hz k
/-! over enumerate of a tuple of data -/
theorem st_forE {tb : TS} {g : TG} (h : Ed K te σ H (.tup ds)) (Pv : Hp → Nat → L2.St → Hp → Prop) (h0 : ∀ H1, Ext H H1 → Pv H1 0 σ H1) (hk : ∀ H1 j σ' H', Pv H1 j σ' H' → Kp H1 H')
    (hs : ∀ H1 j v d σ' H' H'', Ext H H1 → ds[j]? = some d → Pv H1 j σ' H' → Ext H' H'' → Im K H'' v (.tup [.int (j : Nat), d]) → g v σ' H'' fun σ2 H2 => tb { D with nx := Pv H1 (j + 1), ct := Pv H1 (j + 1), bk := D.nx } σ2 H2) (hd : ∀ H1 σ' H', Ext H H1 → Pv H1 ds.length σ' H' → D.nx σ' H') : tFor (iEnumT K (tCons te tNil)) g tb D σ H := h H (Ext.refl H) _ fun v H1 e1 hv => by
  cases hv with
  | tup s1 s2 =>
    rename_i a xs
    have hl := s2.length
    refine ⟨a, xs, rfl, s1, fun i m σ H => m = xs.length - i ∧ i ≤ xs.length ∧ Pv H1 i σ H, ⟨xs.length, by simp, Nat.zero_le _, h0 H1 e1⟩, ?_⟩
    rintro i m σ' H' ⟨rfl, hi, p⟩
    have q := (hk H1 i σ' H' p).sqT s1
    by_cases hlt : i < xs.length
    · refine .inr ⟨⟨xs, xs[i], q, by simp [hlt]⟩, Pv H1 (i + 1), fun σ' H' p' => ⟨xs.length - (i + 1), by omega, rfl, hlt, p'⟩, fun x H'' y => ?_⟩
      obtain ⟨T, u, rfl, hT, rfl, yy⟩ := y
      have hu := yy xs q
      obtain ⟨d0, hd0⟩ : ∃ d, ds[i]? = some d := ⟨_, List.getElem?_eq_getElem (by omega)⟩
      obtain ⟨u', hu', hud⟩ := s2.get hd0
      obtain rfl : u' = u := Option.some.inj (hu'.symm.trans hu)
      have e3 : Ext H' (upd H' T (.tup [.int (i : Nat), u'])) := Ext.new hT
      refine hs H1 i _ d0 σ' H' _ e1 hd0 p e3 (.tup (.inl (.inl upd_same)) (.cons (.int _) (.cons (hud.to ((hk H1 i σ' H' p).trans e3.kp)) .nil)))
    · have e : i = xs.length := by omega
      subst e
      exact .inl ⟨⟨xs, q, rfl⟩, hd H1 σ' H' e1 (hl ▸ p)⟩
end
end K29
set_option Elab.async false
set_option linter.all false
set_option maxRecDepth 100000
set_option maxHeartbeats 4000000
/-! any and all over data; defs with code objects of their own, defs with defaults -/
namespace K29
open PySem PySem.Spec PyProof.Rows L2
section
variable {K : PySem.W.Frag} {H H' H0 H1 H2 : Hp} {σ : L2.St} {v x y z : V} {a b c d : Dt} {ds es : List Dt} {te ti ta tb : TE} {g : TG} {vs : List Nat} {P : Addr}
theorem tabbed_ext (h : GxR.TabG H P) (t : GxR.Tabbed P H H') : Ext H H' := by
  obtain ⟨ps, h1, h2⟩ := h
  obtain ⟨⟨ps', q1, q2⟩, q3⟩ := t
  refine ⟨⟨fun b xs e => ?_, fun b o u e => ?_, fun b qs e => ?_, fun b e => ?_⟩, fun b o _ e n => ?_⟩
  · rw [q3 b (fun z => by rw [z, h1] at e; cases e)]
    exact e
  · rw [q3 b (fun z => by rw [z, h1] at e; cases e)]
    exact e
  · by_cases hb : b = P
    · subst hb
      exact ⟨ps', q1, fun _ => q2⟩
    · rw [q3 b hb]
      exact ⟨qs, e, id⟩
  · by_cases hb : b = P
    · rw [hb, q1] at e
      cases e
    · rw [← q3 b hb]
      exact e
  · rw [q3 b (fun z => by rw [z, h1] at e; cases e; exact n _ rfl)]
    exact e
/-- an item of a generator expression: a truth value -/
def GxStep (K : PySem.W.Frag) (g : TG) (te : TE) (vs : List Nat) (σ : L2.St) (H : Hp) (v : V) (k : Bool) : Prop :=
  g v (wipe σ vs) H fun σ2 H2 => wipe σ2 vs = wipe σ vs ∧ Ext H H2 ∧ Ed K te σ2 H2 (.bl k)
theorem gx_name {i : Nat} {k : Bool} (hv : wipe ((wipe σ vs).set i (some v)) vs = wipe σ vs) (h : Ed K te ((wipe σ vs).set i (some v)) H (.bl k)) : GxStep K (gName i) te vs σ H v k := ⟨hv, Ext.refl H, h⟩
theorem gx_turn (hg : GMono g) {k : Bool} (h : GxStep K g te vs σ H v k) (e0 : Ext H0 H) : g v (wipe σ vs) H fun σ2 H2 => wipe σ2 vs = wipe σ vs ∧ te σ2 H2 fun y H3 => y = .bl k ∧ Ext H0 H3 := by
  refine hg _ _ _ _ _ h fun σ2 H2 q => ⟨q.1, ?_⟩
  obtain ⟨_, e2, h1⟩ := q
  refine h1 H2 (Ext.refl _) _ fun y H3 e3 hy => ?_
  cases hy
  exact ⟨rfl, e0.trans (e2.trans e3)⟩
theorem all_end {n : Nat} {tr : Nat → Bool} (Q : Bool → Prop) (q : Q ((List.range n).all tr)) : (∀ i, i < n → tr i = false → Q false) ∧ ((∀ j, j < n → tr j = true) → Q true) := by
  constructor
  · intro i hi ht
    have e : (List.range n).all tr = false := by
      rw [List.all_eq_false]
      exact ⟨i, List.mem_range.mpr hi, by rw [ht]; simp⟩
    rwa [e] at q
  · intro h
    have e : (List.range n).all tr = true := by
      rw [List.all_eq_true]
      exact fun j hj => h j (List.mem_range.mp hj)
    rwa [e] at q
theorem any_end {n : Nat} {tr : Nat → Bool} (Q : Bool → Prop) (q : Q ((List.range n).any tr)) : (∀ i, i < n → tr i = true → Q true) ∧ ((∀ j, j < n → tr j = false) → Q false) := by
  constructor
  · intro i hi ht
    have e : (List.range n).any tr = true := by
      rw [List.any_eq_true]
      exact ⟨i, List.mem_range.mpr hi, ht⟩
    rwa [e] at q
  · intro h
    have e : (List.range n).any tr = false := by
      rw [List.any_eq_false]
      exact fun j hj => by rw [h j (List.mem_range.mp hj)]; simp
    rwa [e] at q
/-- all(.. for .. in a tuple) -/
theorem ed_allT (h : Ed K ti σ H (.tup ds)) (hT : GxR.TabG H0 P) (ht : Kp H0 H) (hg : GMono g) (tr : Nat → Bool) (hs : ∀ j v d H', Ext H H' → ds[j]? = some d → Im K H' v d → GxStep K g te vs σ H' v (tr j)) : Ed K (tAllG P (iTup K ti) g te vs) σ H (.bl ((List.range ds.length).all tr)) := fun H1 e Q q =>
  h H1 e _ fun v H2 e2 hv => by
    cases hv with
    | tup s1 s2 =>
      rename_i a xs
      have hl := s2.length
      have hT2 := ((ht.trans e.kp).trans e2.kp).tabG hT
      refine ⟨a, rfl, ⟨xs, s1⟩, hT2, fun H3 t3 => ?_⟩
      have e3 := tabbed_ext hT2 t3
      have s3 := e3.kp.sqT s1
      refine ⟨ds.length, tr, fun _ H' => Ext H3 H', ⟨Ext.refl _, fun i H' hi p => ?_, fun H' p => ⟨xs, p.kp.sqT s3, by omega⟩⟩, ?_, ?_⟩
      · have s4 := p.kp.sqT s3
        obtain ⟨d0, hd0⟩ : ∃ d, ds[i]? = some d := ⟨_, List.getElem?_eq_getElem hi⟩
        obtain ⟨u, hu, hud⟩ := s2.get hd0
        refine ⟨⟨xs, u, s4, hu⟩, ?_⟩
        rintro x H' ⟨rfl, y⟩
        obtain rfl : x = u := Option.some.inj ((y xs s4).symm.trans hu)
        exact gx_turn hg (hs i x d0 H' ((e.trans e2).trans (e3.trans p)) hd0 (hud.to (e3.trans p).kp)) p
      · intro i H' hi _ hf p
        exact (all_end (fun k => Q (.bl k) H') (q _ H' (e2.trans (e3.trans p)) (.bl _))).1 i hi hf
      · intro hf H' p
        exact (all_end (fun k => Q (.bl k) H') (q _ H' (e2.trans (e3.trans p)) (.bl _))).2 hf
theorem ed_anyT (h : Ed K ti σ H (.tup ds)) (hT : GxR.TabG H0 P) (ht : Kp H0 H) (hg : GMono g) (tr : Nat → Bool) (hs : ∀ j v d H', Ext H H' → ds[j]? = some d → Im K H' v d → GxStep K g te vs σ H' v (tr j)) : Ed K (tAnyG P (iTup K ti) g te vs) σ H (.bl ((List.range ds.length).any tr)) := fun H1 e Q q =>
  h H1 e _ fun v H2 e2 hv => by
    cases hv with
    | tup s1 s2 =>
      rename_i a xs
      have hl := s2.length
      have hT2 := ((ht.trans e.kp).trans e2.kp).tabG hT
      refine ⟨a, rfl, ⟨xs, s1⟩, hT2, fun H3 t3 => ?_⟩
      have e3 := tabbed_ext hT2 t3
      have s3 := e3.kp.sqT s1
      refine ⟨ds.length, tr, fun _ H' => Ext H3 H', ⟨Ext.refl _, fun i H' hi p => ?_, fun H' p => ⟨xs, p.kp.sqT s3, by omega⟩⟩, ?_, ?_⟩
      · have s4 := p.kp.sqT s3
        obtain ⟨d0, hd0⟩ : ∃ d, ds[i]? = some d := ⟨_, List.getElem?_eq_getElem hi⟩
        obtain ⟨u, hu, hud⟩ := s2.get hd0
        refine ⟨⟨xs, u, s4, hu⟩, ?_⟩
        rintro x H' ⟨rfl, y⟩
        obtain rfl : x = u := Option.some.inj ((y xs s4).symm.trans hu)
        exact gx_turn hg (hs i x d0 H' ((e.trans e2).trans (e3.trans p)) hd0 (hud.to (e3.trans p).kp)) p
      · intro i H' hi _ hf p
        exact (any_end (fun k => Q (.bl k) H') (q _ H' (e2.trans (e3.trans p)) (.bl _))).1 i hi hf
      · intro hf H' p
        exact (any_end (fun k => Q (.bl k) H') (q _ H' (e2.trans (e3.trans p)) (.bl _))).2 hf
/-- any(.. for .. in a list that stays) -/
theorem ed_anyL (h : EdL K ti σ H ds) (hT : GxR.TabG H0 P) (ht : Kp H0 H) (hg : GMono g) (tr : Nat → Bool) (hs : ∀ j v d H', Ext H H' → ds[j]? = some d → Im K H' v d → GxStep K g te vs σ H' v (tr j)) : Ed K (tAnyG P (iList K ti) g te vs) σ H (.bl ((List.range ds.length).any tr)) := fun H1 e Q q =>
  h H1 e _ fun a H2 e2 hv => by
    obtain ⟨xs, s1, s2⟩ := hv
    have hl := s2.length
    have hT2 := ((ht.trans e.kp).trans e2.kp).tabG hT
    refine ⟨a, rfl, ⟨xs, s1⟩, hT2, fun H3 t3 => ?_⟩
    have e3 := tabbed_ext hT2 t3
    have s3 := e3.seqL s1
    refine ⟨ds.length, tr, fun _ H' => Ext H3 H', ⟨Ext.refl _, fun i H' hi p => ?_, fun H' p => ⟨xs, p.seqL s3, by omega⟩⟩, ?_, ?_⟩
    · have s4 := p.seqL s3
      obtain ⟨d0, hd0⟩ : ∃ d, ds[i]? = some d := ⟨_, List.getElem?_eq_getElem hi⟩
      obtain ⟨u, hu, hud⟩ := s2.get hd0
      refine ⟨⟨xs, u, s4, hu⟩, ?_⟩
      rintro x H' ⟨rfl, y⟩
      obtain rfl : x = u := Option.some.inj ((y xs s4).symm.trans hu)
      exact gx_turn hg (hs i x d0 H' ((e.trans e2).trans (e3.trans p)) hd0 (hud.to (e3.trans p).kp)) p
    · intro i H' hi _ hf p
      exact (any_end (fun k => Q (.bl k) H') (q _ H' (e2.trans (e3.trans p)) (.bl _))).1 i hi hf
    · intro hf H' p
      exact (any_end (fun k => Q (.bl k) H') (q _ H' (e2.trans (e3.trans p)) (.bl _))).2 hf
/-- all(.. for .. in a str) -/
theorem ed_allS {w : Str} (h : Ed K ti σ H (.str w)) (hT : GxR.TabG H0 P) (ht : Kp H0 H) (hg : GMono g) (tr : Nat → Bool) (hs : ∀ j c H', Ext H H' → w.cps[j]? = some c → GxStep K g te vs σ H' (.str ⟨#[c]⟩) (tr j)) : Ed K (tAllG P (iStr ti) g te vs) σ H (.bl ((List.range w.cps.size).all tr)) := fun H1 e Q q =>
  h H1 e _ fun v H2 e2 hv => by
    cases hv
    have hT2 := ((ht.trans e.kp).trans e2.kp).tabG hT
    refine ⟨w, rfl, hT2, fun H3 t3 => ?_⟩
    have e3 := tabbed_ext hT2 t3
    refine ⟨w.cps.size, tr, fun _ H' => Ext H3 H', ⟨Ext.refl _, fun i H' hi p => ⟨hi, ?_⟩, fun H' p => Nat.le_refl _⟩, ?_, ?_⟩
    · rintro x H' ⟨rfl, c, hc, rfl⟩
      exact gx_turn hg (hs i c H' ((e.trans e2).trans (e3.trans p)) hc) p
    · intro i H' hi _ hf p
      exact (all_end (fun k => Q (.bl k) H') (q _ H' (e2.trans (e3.trans p)) (.bl _))).1 i hi hf
    · intro hf H' p
      exact (all_end (fun k => Q (.bl k) H') (q _ H' (e2.trans (e3.trans p)) (.bl _))).2 hf
end
/-! ### the defs -/
section
variable {P : Program} {w : World} {K : PySem.W.Frag} {mg : Str → Option Value} {base : Heap}
theorem tabs_at {H : Hp} {p : He.Defn} (h : Tabs (TL K) H) (hp : p ∈ tf := by decide) : GxR.TabG H (He.cT K p).2 := h _ (List.mem_map.mpr ⟨p, hp, rfl⟩)
theorem fn_ofC {x qual : Str} {params : Arguments} {body : List Stmt} {scope : Scope} {N ps : List Str} {k : Nat} {sp : Sp} {p : He.Defn} {dvs : List V} {fd : FuncData}
    (F : FunD K x qual params body scope dvs [] (He.fAd K p) fd) (S : FnScope N ps scope) (len : ∀ vs H Q E, sp vs H Q E → vs.length = ps.length)
    (hbody : ∀ (A : Around) (outer : List Env) (s : Shared) (H : Hp) (vs : List V) (Q : VK) (E : XK), Room k (A.deeper (envOfC qual scope s.heap.objs.size (He.fAd K p) (.ref (He.codeOf K p)))) → sp vs H Q E →
      ∃ t, PSs (cxOf CX0 P w K mg base N qual scope (He.fAd K p) (.ref (He.codeOf K p)) A outer s H E).nox body t ∧ t { nx := fun _ H' => Q .non H', rt := Q } (start N vs) H) : FnOk P w K mg base CX0 (k + 1) (He.fAd K p) fd ps sp := by
  obtain ⟨oc, od, dV, kV, doc, pm, an, cdv, ct, osl, rfl, lk, hcd, _, _⟩ := F.ex
  obtain ⟨c, rfl⟩ := He.codeIn_ref hcd
  have e := He.codeOf_eq (p := p) lk (c := c) rfl
  subst e
  exact fn_of lk hcd S len fun A outer s H vs Q E hr hsp => by
    obtain ⟨t, h1, h2⟩ := hbody A outer s H vs Q E hr hsp
    exact ⟨t, h1.nox, h2⟩
/-- by its body, the code object known -/
theorem ok_ofC {x qual : Str} {params : Arguments} {body : List Stmt} {scope : Scope} {N ps : List Str} {k : Nat} {sp : Sp} {p : He.Defn}
    (F : ∃ fd, FunD K x qual params body scope [] [] (He.fAd K p) fd) (S : FnScope N ps scope) (len : ∀ vs H Q E, sp vs H Q E → vs.length = ps.length)
    (hb : ∀ (kV doc pm : Value) (an : Option Addr) (cdv ct : Value) (us : List Value), us.length = ps.length → bindArgs (PySem.W.fnOf x qual params body scope .none kV doc pm an cdv ct) ⟨us, []⟩ = pure (ps.zip us))
    (hbody : ∀ (A : Around) (outer : List Env) (s : Shared) (H : Hp) (vs : List V) (Q : VK) (E : XK), Room k (A.deeper (envOfC qual scope s.heap.objs.size (He.fAd K p) (.ref (He.codeOf K p)))) → sp vs H Q E →
      ∃ t, PSs (cxOf CX0 P w K mg base N qual scope (He.fAd K p) (.ref (He.codeOf K p)) A outer s H E).nox body t ∧ t { nx := fun _ H' => Q .non H', rt := Q } (start N vs) H) : Ok P w K mg base (k + 1) p ps sp := by
  obtain ⟨fd, F⟩ := F
  exact ⟨⟨fd, fn_ofC F S len hbody, FunD.bindsN F hb⟩, F.kp⟩
/-- the same of a def called with its last parameters by default -/
def OkD (P : Program) (w : World) (K : PySem.W.Frag) (mg : Str → Option Value) (base : Heap) (k : Nat) (p : He.Defn) (ps : List Str) (dvs : List V) (sp : Sp) : Prop :=
  (∃ fd, FnOk P w K mg base CX0 k (He.fAd K p) fd ps sp ∧ ∃ ds, Vals dvs ds ∧ Binds K fd ps ds) ∧ PySem.W.keepIn K (.ref (He.fAd K p)) = true
theorem ok_ofD {x qual : Str} {params : Arguments} {body : List Stmt} {scope : Scope} {N ps : List Str} {k : Nat} {sp : Sp} {p : He.Defn} {dvs : List V} (n j : Nat)
    (F : ∃ fd, FunD K x qual params body scope dvs [] (He.fAd K p) fd) (S : FnScope N ps scope) (len : ∀ vs H Q E, sp vs H Q E → vs.length = ps.length) (hd : dvs ≠ []) (hn : n + (dvs.length - j) = ps.length)
    (h : ∀ (T : Addr) (kV doc pm : Value) (an : Option Addr) (cdv ct : Value) (us its : List Value), us.length = n → its.length = dvs.length →
      ∃ k, bindArgs (PySem.W.fnOf x qual params body scope (.ref T) kV doc pm an cdv ct) ⟨us, []⟩ = seqItems? (.ref T) >>= k ∧ k (some its.toArray) = pure (ps.zip (us ++ its.drop j)))
    (hbody : ∀ (A : Around) (outer : List Env) (s : Shared) (H : Hp) (vs : List V) (Q : VK) (E : XK), Room k (A.deeper (envOfC qual scope s.heap.objs.size (He.fAd K p) (.ref (He.codeOf K p)))) → sp vs H Q E →
      ∃ t, PSs (cxOf CX0 P w K mg base N qual scope (He.fAd K p) (.ref (He.codeOf K p)) A outer s H E).nox body t ∧ t { nx := fun _ H' => Q .non H', rt := Q } (start N vs) H) : OkD P w K mg base (k + 1) p ps (dvs.drop j) sp := by
  obtain ⟨fd, F⟩ := F
  exact ⟨⟨fd, fn_ofC F S len hbody, FunD.binds1 F n j hd hn h⟩, F.kp⟩
end
end K29
set_option Elab.async false
set_option linter.all false
set_option maxRecDepth 100000
set_option maxHeartbeats 4000000
/-! houses and what lives tell, in plain Lean; their data -/
namespace K29
open PySem PySem.Spec PyProof.Rows L2
/-- a small house -/
structure House (M : Mach) (G : Tbl) (m : Nat) : Prop where
  ne : 1 ≤ M.length
  few : M.length ≤ 2
  st : ∀ st ∈ M, st.length ≤ 2
  tgt : ∀ st ∈ M, ∀ p ∈ st, p.1 < M.length ∧ WdOk p.2
  len : G.length = M.length
  rows : ∀ (s : Nat) (st : List (Nat × Wd)) (rs : List (List Nat)), M[s]? = some st → G[s]? = some rs → rs.length = st.length
  row : ∀ rs ∈ G, ∀ r ∈ rs, 1 ≤ r.length ∧ r.length ≤ 2 ∧ ∀ x ∈ r, x < m
  mk1 : 1 ≤ m
  mk2 : m ≤ 2
def rowT (M : Mach) (G : Tbl) (l : Life) : List Nat := (rowOf M G l).getD []
def wordT (M : Mach) (l : Life) : Wd := (wordOf M l).getD none
/-- the marks of the first j options -/
def mkN (M : Mach) (G : Tbl) (l : Life) : Nat → List Nat
  | 0 => []
  | j + 1 => mkN M G l j ++ rowT M G (l.take (j + 1))
/-- what they tell -/
def tlN (M : Mach) (G : Tbl) (l : Life) : Nat → List (Nat × Str)
  | 0 => []
  | j + 1 => tlN M G l j ++ (match wordT M (l.take (j + 1)) with | none => [] | some w => [((mkN M G l (j + 1)).length, w)])
def mks (M : Mach) (G : Tbl) (l : Life) : List Nat := mkN M G l l.length
def told (M : Mach) (G : Tbl) (l : Life) : List (Nat × Str) := tlN M G l l.length
section
variable {M : Mach} {G : Tbl} {m : Nat}
theorem House.at (h : House M G m) {s : Nat} {st : List (Nat × Wd)} (e : M[s]? = some st) : ∃ rs, G[s]? = some rs ∧ rs.length = st.length := by
  have hs := (List.getElem?_eq_some_iff.mp e).1
  refine ⟨G[s]'(by rw [h.len]; exact hs), List.getElem?_eq_getElem _, h.rows s st _ e (List.getElem?_eq_getElem _)⟩
theorem House.opt (h : House M G m) {s o : Nat} {p : Nat × Wd} (e : opt M s o = some p) : p.1 < M.length ∧ WdOk p.2 := by
  obtain ⟨st, h1, h2⟩ := Option.bind_eq_some_iff.mp e
  exact h.tgt st (List.mem_of_getElem? h1) p (List.mem_of_getElem? h2)
theorem House.rowAt (h : House M G m) {s o : Nat} {p : Nat × Wd} (e : K29.opt M s o = some p) : ∃ rs r, G[s]? = some rs ∧ rs[o]? = some r ∧ 1 ≤ r.length ∧ r.length ≤ 2 ∧ ∀ x ∈ r, x < m := by
  obtain ⟨st, h1, h2⟩ := Option.bind_eq_some_iff.mp e
  obtain ⟨rs, q1, q2⟩ := h.at h1
  have ho := (List.getElem?_eq_some_iff.mp h2).1
  have hr : rs[o]? = some (rs[o]'(by rw [q2]; exact ho)) := List.getElem?_eq_getElem _
  exact ⟨rs, _, q1, hr, h.row rs (List.mem_of_getElem? q1) _ (List.mem_of_getElem? hr)⟩
theorem go_lt (h : House M G m) : ∀ {l : Life} {s t : Nat}, s < M.length → go M s l = some t → t < M.length
  | [], s, t, hs, e => by
    cases e
    exact hs
  | o :: l, s, t, hs, e => by
    obtain ⟨p, h1, h2⟩ := Option.bind_eq_some_iff.mp (show ((K29.opt M s o).bind fun p => go M p.1 l) = some t from e)
    exact go_lt h (h.opt h1).1 h2
theorem go_pre {l r : Life} {s t : Nat} (h : go M s (l ++ r) = some t) : ∃ u, go M s l = some u ∧ go M u r = some t := by
  rw [go_append] at h
  exact Option.bind_eq_some_iff.mp h
theorem go_one {s o : Nat} : go M s [o] = (K29.opt M s o).map (·.1) := by
  show ((K29.opt M s o).bind fun p => some p.1) = _
  cases K29.opt M s o <;> rfl
theorem go_snoc {l : Life} {o s t : Nat} (h : go M s (l ++ [o]) = some t) : ∃ u p, go M s l = some u ∧ K29.opt M u o = some p ∧ p.1 = t := by
  obtain ⟨u, h1, h2⟩ := go_pre h
  rw [go_one] at h2
  obtain ⟨p, h3, h4⟩ := Option.map_eq_some_iff.mp h2
  exact ⟨u, p, h1, h3, h4⟩
/-- the last option of a life that is not empty -/
theorem last_of (h : House M G m) {l : Life} {o t : Nat} (e : go M 0 (l ++ [o]) = some t) : ∃ u p rs r, go M 0 l = some u ∧ K29.opt M u o = some p ∧ p.1 = t ∧ G[u]? = some rs ∧ rs[o]? = some r ∧ 1 ≤ r.length ∧ r.length ≤ 2 ∧ (∀ x ∈ r, x < m) ∧
    rowOf M G (l ++ [o]) = some r ∧ wordOf M (l ++ [o]) = some p.2 ∧ WdOk p.2 ∧ rowT M G (l ++ [o]) = r ∧ wordT M (l ++ [o]) = p.2 := by
  obtain ⟨u, p, h1, h2, h3⟩ := go_snoc e
  obtain ⟨rs, r, q1, q2, q3, q4, q5⟩ := h.rowAt h2
  have a1 : rowOf M G (l ++ [o]) = some r := by
    rw [rowOf_snoc, h1]
    simp only [Option.bind_some, q1, q2]
  have a2 : wordOf M (l ++ [o]) = some p.2 := by
    rw [wordOf_snoc]
    unfold lastOpt
    rw [h1]
    simp only [Option.bind_some, h2, Option.map_some]
  exact ⟨u, p, rs, r, h1, h2, h3, q1, q2, q3, q4, q5, a1, a2, (h.opt h2).2, by unfold rowT; rw [a1]; rfl, by unfold wordT; rw [a2]; rfl⟩
theorem take_at {l : Life} {j : Nat} (h : j < l.length) : ∃ o, l[j]? = some o ∧ l.take (j + 1) = l.take j ++ [o] := ⟨l[j], List.getElem?_eq_getElem h, take_snoc' (List.getElem?_eq_getElem h)⟩
theorem go_take {l : Life} {s t : Nat} (j : Nat) (h : go M s l = some t) : ∃ u, go M s (l.take j) = some u := by
  rw [← List.take_append_drop j l] at h
  obtain ⟨u, h1, _⟩ := go_pre h
  exact ⟨u, h1⟩
theorem mkN_len (h : House M G m) {l : Life} {t : Nat} (e : go M 0 l = some t) : ∀ j, j ≤ l.length → j ≤ (mkN M G l j).length ∧ (mkN M G l j).length ≤ 2 * j
  | 0, _ => by simp [mkN]
  | j + 1, hj => by
    obtain ⟨o, ho, et⟩ := take_at (l := l) (j := j) (by omega)
    obtain ⟨u, hu⟩ := go_take (j + 1) e
    rw [et] at hu
    obtain ⟨u, p, rs, r, _, _, _, _, _, h1, h2, _, _, _, _, hr, _⟩ := last_of h hu
    have ih := mkN_len h e j (by omega)
    unfold mkN
    rw [et, hr, List.length_append]
    omega
theorem tlN_len {l : Life} : ∀ j, (tlN M G l j).length ≤ j
  | 0 => by simp [tlN]
  | j + 1 => by
    have := tlN_len (l := l) j
    unfold tlN
    rw [List.length_append]
    cases wordT M (l.take (j + 1)) <;> simp <;> omega
end
/-! ### data -/
def eTd (p : Nat × Str) : Dt := .tup [eN p.1, .str p.2]
def eTl (l : List (Nat × Str)) : Dt := .tup (l.map eTd)
theorem eTd_inj {a b : Nat × Str} : eTd a = eTd b ↔ a = b := by
  obtain ⟨a1, a2⟩ := a
  obtain ⟨b1, b2⟩ := b
  simp [eTd, eN_inj]
theorem eTl_inj {a b : List (Nat × Str)} : eTl a = eTl b ↔ a = b := by
  simp only [eTl, Dt.tup.injEq]
  exact map_inj fun _ _ => eTd_inj
/-- words that can be compared -/
def TlOk (l : List (Nat × Str)) : Prop := ∀ p ∈ l, PyData.strOk p.2 = true
theorem ok_eTl {l : List (Nat × Str)} (h : TlOk l) : ok 2 (eTl l) = true := by
  refine ok_tup fun d hd => ?_
  obtain ⟨p, hp, rfl⟩ := List.mem_map.mp hd
  refine ok_tup fun d hd => ?_
  simp only [List.mem_cons, List.not_mem_nil, or_false] at hd
  rcases hd with rfl | rfl
  · exact ok_eN
  · simp only [ok]
    exact h p hp
theorem told_ok {M : Mach} {G : Tbl} {m : Nat} (h : House M G m) {l : Life} {t : Nat} (e : go M 0 l = some t) : ∀ j, j ≤ l.length → TlOk (tlN M G l j)
  | 0, _ => fun p hp => by cases hp
  | j + 1, hj => fun p hp => by
    obtain ⟨o, ho, et⟩ := take_at (l := l) (j := j) (by omega)
    obtain ⟨u, hu⟩ := go_take (j + 1) e
    rw [et] at hu
    obtain ⟨u, q, rs, r, _, _, _, _, _, _, _, _, _, _, hw, _, hwt⟩ := last_of h hu
    unfold tlN at hp
    rw [et, hwt] at hp
    rcases List.mem_append.mp hp with hp | hp
    · exact told_ok h e j (by omega) p hp
    · cases hq : q.2 with
      | none =>
        rw [hq] at hp
        cases hp
      | some w =>
        rw [hq] at hp
        cases List.mem_singleton.mp hp
        exact (hw w hq).1
section
variable {K : PySem.W.Frag} {a b : Dt} {ds : List Dt} {i j : Int}
theorem rd_eqI : RD K (rEqD K) (.int i) (.int j) (.bl (decide (i = j))) := rd_eq (n := 0) (m := 0) ok_int ok_int (by simp)
theorem rd_neI : RD K (rNeD K) (.int i) (.int j) (.bl (decide (i ≠ j))) := rd_ne (n := 0) (m := 0) ok_int ok_int (by simp)
theorem rd_eqS {x y : Str} (hx : PyData.strOk x = true) (hy : PyData.strOk y = true) : RD K (rEqD K) (.str x) (.str y) (.bl (decide (x = y))) := rd_eq (n := 0) (m := 0) (by simpa only [ok] using hx) (by simpa only [ok] using hy) (by simp)
theorem rd_neS {x y : Str} (hx : PyData.strOk x = true) (hy : PyData.strOk y = true) : RD K (rNeD K) (.str x) (.str y) (.bl (decide (x ≠ y))) := rd_ne (n := 0) (m := 0) (by simpa only [ok] using hx) (by simpa only [ok] using hy) (by simp)
theorem rd_inS {c : Nat} {z : Str} : RD K rInS (.str ⟨#[c]⟩) (.str z) (.bl (decide (c ∈ z.cps.toList))) := rd_now fun x y H1 hx hy Q q => by
  cases hx
  cases hy
  exact ⟨c, z, rfl, rfl, q _ (.bl _)⟩
theorem cut_takeA {α : Type} {xs : List α} {n : Nat} : cutD xs none (some (n : Int)) = xs.take n := by
  unfold cutD
  rw [HT.sIx_none, HT.sIx_nat, List.drop_zero, Nat.sub_zero]
  by_cases h : n ≤ xs.length
  · rw [Nat.min_eq_left h]
  · rw [Nat.min_eq_right (by omega), List.take_length, List.take_of_length_le (by omega)]
end
/-- a field, the frame named -/
theorem pe_fldK {X : Cx} {K : PySem.W.Frag} {e : Expr} {ta : TE} {f : Str} {pos : Pos} (hK : X.K = K) (he : PE X e ta) (hb : attributeBase e f X.env (eval e X.env) = eval e X.env) : PE X (.Attribute e f pos) (tFld K ta f) := by
  subst hK
  exact pe_fld he hb
inductive Mn where
  | sealed | late | early | counted | opened
deriving DecidableEq
def Mn.s : Mn → Str
  | .sealed => "sealed"
  | .late => "late"
  | .early => "early"
  | .counted => "counted"
  | .opened => "open"
theorem Mn.ok (m : Mn) : PyData.strOk m.s = true := by cases m <;> decide +kernel
theorem Mn.inj {m n : Mn} : m.s = n.s ↔ m = n := by
  constructor
  · intro h
    cases m <;> cases n <;> first | rfl | (exact absurd h (by decide +kernel))
  · intro h
    rw [h]
end K29
set_option Elab.async false
set_option linter.all false
set_option maxRecDepth 100000
set_option maxHeartbeats 4000000
/-! what a house is: the walks -/
namespace K29
open PySem PySem.Spec PyProof.Rows L2
local macro_rules | `(tactic| walk_at "kp") => `(tactic| first | exact Kp.refl _ | assumption | exact Chg.kp (by assumption) | (refine Kp.trans ?_ (Chg.kp (by assumption)); walk_at "kp"))
local macro_rules | `(tactic| walk_at "ext") => `(tactic| first | exact Ext.refl _ | assumption | (refine Ext.trans ?_ (by assumption); walk_at "ext"))

theorem u10 {k : Nat} {A : Around} (r : Room k A) : A.units + 10 < cLine := by
  have := r.un
  omega
section
variable {K : PySem.W.Frag} {H H' H0 H1 H2 : Hp} {σ : L2.St} {v x y z : V} {a b c d : Dt} {ds es fs : List Dt} {te ta tb tc : TE} {D : Ends} {tz : TS}
theorem ed_callD {TL : List Addr} {R : List Dt → Dt → Prop} {E : XK} {tr : TA} {dvs : List V} (h : EdA K tr σ H ds) (hd : ∀ H, ImAll K H dvs es) (ht : Tabs TL H0) (hk : Kp H0 H) (hr : R (ds ++ es) d) : Ed K (tCall (SpF K TL R) dvs E tr) σ H d := fun H1 e Q q =>
  h H1 e _ fun vs H2 e2 hs => ⟨ds ++ es, d, hs.append (hd H2), ht.to ((hk.trans e.kp).trans e2.kp), hr, fun v H3 e3 hv => q v H3 (e2.trans e3) hv⟩
theorem st_drop (h : Ed K te σ H d) (k : ∀ H1, Ext H H1 → D.nx σ H1) : tDrop te D σ H := h H (Ext.refl H) _ fun _ H1 e _ => k H1 e
theorem q_drop (h : Ed K te σ H d) (k : ∀ H1, Ext H H1 → tz D σ H1) : tSeq (tDrop te) tz D σ H := st_drop (D := { D with nx := tz D }) h k
theorem ed_min {i j : Int} (h1 : Ed K ta σ H (.int i)) (h2 : Ed K tb σ H (.int j)) : Ed K (tCB (fun xs H Q => ∃ i j, xs = [V.int i, V.int j] ∧ Q (.int (if j < i then j else i)) H) (tCons ta (tCons tb tNil))) σ H (.int (if j < i then j else i)) := fun H1 e Q q =>
  h1 H1 e _ fun x H2 e2 hx => h2 H2 (e.trans e2) _ fun y H3 e3 hy => by
    cases hx
    cases hy
    exact ⟨i, j, rfl, q _ H3 (e2.trans e3) (.int _)⟩
theorem st_par3 {i j l : Nat} (h1 : Ed K ta σ H a) (h2 : Ed K tb σ H b) (h3 : Ed K tc σ H c) (k : ∀ x y z H1, Ext H H1 → Im K H1 x a → Im K H1 y b → Im K H1 z c → D.nx (((σ.set i (some x)).set j (some y)).set l (some z)) H1) : tPar3 i j l (tCons ta (tCons tb (tCons tc tNil))) D σ H := h1 H (Ext.refl H) _ fun x H1 e1 hx => h2 H1 e1 _ fun y H2 e2 hy => h3 H2 (e1.trans e2) _ fun z H3 e3 hz =>
  ⟨x, y, z, rfl, k x y z H3 (e1.trans (e2.trans e3)) (hx.to (e2.trans e3).kp) (hy.to e3.kp) hz⟩
end
section
variable {P : Program} {w : World} {K : PySem.W.Frag} {mg : Str → Option Value} {base : Heap}
def R_need_number (ds : List Dt) (d : Dt) : Prop := ∃ n lo hi : Int, ds = [.int n, .int lo, .int hi] ∧ lo ≤ n ∧ n ≤ hi ∧ d = .non
theorem sc_need_number : FnScope ["value", "low", "high"] ["value", "low", "high"] (defScope s_need_number) := ⟨rfl, rfl, rfl, by decide +kernel, rfl, by decide +kernel, by decide +kernel⟩
theorem ok_need_number (T : Txt w K mg base) : Ok P w K mg base 2 ("need_number", none) ["value", "low", "high"] (SpF K (TL K) R_need_number) := by
  obtain ⟨⟨fd_is_number, F_is_number, b_is_number⟩, k_is_number⟩ := ok_is_number (P := P) T
  refine ok_of (k := 1) T.f_need_number sc_need_number (fun vs H Q E h => ?_) (fun _ _ _ _ _ _ us hl => match us, hl with | [_, _, _], _ => rfl) (fun cdv A outer s H vs Q E hr h => ?_)
  · obtain ⟨ds, d, hi, _, ⟨n, lo, hi', rfl, _⟩, _⟩ := h
    exact hi.length
  · obtain ⟨ds, d, hi, hT, ⟨n, lo, hi', rfl, p1, p2, rfl⟩, hQ⟩ := h
    cases hi with | cons h1 hi => cases hi with | cons h2 hi => cases hi with | cons h3 hi =>
    cases hi
    refine ⟨_, (pss_one (ps_if (pt_not (pt_val (pe_call F_is_number (hr.mono (by decide)) (by rfl) T.g_is_number k_is_number b_is_number .nil pass0 (pa_cons (pv 0) (pa_cons (pv 1) (pa_cons (pv 2) pa_nil)))))) (pss_one ps_never) pss_nil)), ?_⟩
    try dsimp only [cxOf, Cx.nox, Cx.wish]
    refine st_if (k := false) (EdT.is (et_not (et_B (ed_call (ea_cons (ed_v h1) (ea_cons (ed_v h2) (ea_cons (ed_v h3) ea_nil))) hT (by walk_at "kp") ⟨_, _, _, rfl, rfl⟩))) ?_) (fun q => by cases q) fun _ H1 e1 => hQ _ _ e1 .non
    simp [p1, p2]
def R_is_word (ds : List Dt) (d : Dt) : Prop := ∃ x : Str, ds = [.str x] ∧ WdOk (some x) ∧ d = .bl true
theorem sc_is_word : FnScope ["value", "sign"] ["value"] (defScope s_is_word) := ⟨rfl, rfl, rfl, by decide +kernel, rfl, by decide +kernel, by decide +kernel⟩
theorem ok_is_word (T : Txt w K mg base) : Ok P w K mg base 4 ("is_word", none) ["value"] (SpF K (TL K) R_is_word) := by
  refine ok_ofC (k := 3) T.f_is_word sc_is_word (fun vs H Q E h => ?_) (fun _ _ _ _ _ _ us hl => match us, hl with | [_], _ => rfl) (fun A outer s H vs Q E hr h => ?_)
  · obtain ⟨ds, d, hi, _, ⟨x, rfl, _⟩, _⟩ := h
    exact hi.length
  · obtain ⟨ds, d, hi, hT, ⟨x, rfl, hx, rfl⟩, hQ⟩ := h
    cases hi with | cons h1 hi =>
    cases hi
    obtain ⟨p1, p2, p3, p4, p5⟩ := hx x rfl
    refine ⟨_, (pss_one (ps_ret (pe_and (pe_callB (id := "isinstance") (r := rIsiX K) call_isiX (by rfl) T.g_isinstance (by decide +kernel) (pa_cons (pv 0) (pa_cons (pe_gty (T := "str") (by rfl) T.g_str) pa_nil))) (pe_and (pe_chain op_leX op_leX pe_int (pe_callB (id := "len") (r := rLenX K) call_lenX (by rfl) T.g_len (by decide +kernel) (pa_cons (pv 0) pa_nil)) (pe_gint (by rfl) T.g_MOST_LETTERS)) (pe_one (pe_allG (own := [("sign", 1)]) hr (by rfl) T.g_all (T.tb _ (by decide)) rfl sc_is_word.nd ⟨rfl, rfl, by decide +kernel, rfl⟩ (blkOk_by (N := ["value", "sign"]) (sc := defScope s_is_word) (by decide +kernel)) (pi_str (pv 0)) (fun _ _ _ _ _ _ _ => (pg_name (i := 1) sc_is_word.nd rfl (Or.inl rfl))) (fun _ _ _ _ _ _ _ hr => (pe_cmpR op_inS (pv 1) (pe_gstr (by rfl) T.g_LETTERS) (by with_unfolding_all rfl))))))))), ?_⟩
    try dsimp only [cxOf, Cx.nox, Cx.wish]
    refine st_ret (Ed.is (ed_andV (ed_isi (ed_v h1) (by rfl)) fun _ => ed_andV (ed_chainLe ed_int (ed_lenS (ed_v h1) (by omega)) ed_int) fun _ =>
      ed_allS (ed_v h1) (tabs_at hT) (by walk_at "kp") gm_name (fun j => decide (x.cps.getD j 0 ∈ ("abcdefghijklmnopqrstuvwxyz" : Str).cps.toList)) fun j c H' e' hc => gx_name rfl (Ed.is (ed_op (ed_v (.str _)) ed_str rd_inS) ?_)) ?_) hQ
    · have e : x.cps.getD j 0 = c := by simp [Array.getD_eq_getD_getElem?, hc]
      rw [e]
    · have e : (List.range x.cps.size).all (fun j => decide (x.cps.getD j 0 ∈ ("abcdefghijklmnopqrstuvwxyz" : Str).cps.toList)) = true := by
        rw [List.all_eq_true]
        intro j hj
        have hj' := List.mem_range.mp hj
        have e : x.cps.getD j 0 = x.cps[j] := by simp [Array.getD, hj']
        rw [e]
        exact decide_eq_true (p5 _ (Array.mem_toList_iff.mpr (Array.getElem_mem hj')))
      rw [e]
      congr 1
      simp
      omega
def R_is_option (ds : List Dt) (d : Dt) : Prop := ∃ (p : Nat × Wd) (n : Nat), ds = [eO p, eN n] ∧ p.1 < n ∧ WdOk p.2 ∧ d = .bl true
theorem sc_is_option : FnScope ["value", "many"] ["value", "many"] (defScope s_is_option) := ⟨rfl, rfl, rfl, by decide +kernel, rfl, by decide +kernel, by decide +kernel⟩
theorem ok_is_option (T : Txt w K mg base) : Ok P w K mg base 5 ("is_option", none) ["value", "many"] (SpF K (TL K) R_is_option) := by
  obtain ⟨⟨fd_is_number, F_is_number, b_is_number⟩, k_is_number⟩ := ok_is_number (P := P) T
  obtain ⟨⟨fd_is_word, F_is_word, b_is_word⟩, k_is_word⟩ := ok_is_word (P := P) T
  refine ok_of (k := 4) T.f_is_option sc_is_option (fun vs H Q E h => ?_) (fun _ _ _ _ _ _ us hl => match us, hl with | [_, _], _ => rfl) (fun cdv A outer s H vs Q E hr h => ?_)
  · obtain ⟨ds, d, hi, _, ⟨x, n, rfl, _⟩, _⟩ := h
    exact hi.length
  · obtain ⟨ds, d, hi, hT, ⟨p, n, rfl, hn, hw, rfl⟩, hQ⟩ := h
    cases hi with | cons h1 hi => cases hi with | cons h2 hi =>
    cases hi
    refine ⟨_, (pss_cons (ps_if (PW.pt (pw_or (pt_not (pt_val (pe_callB (id := "isinstance") (r := rIsiX K) call_isiX (by rfl) T.g_isinstance (by decide +kernel) (pa_cons (pv 0) (pa_cons (pe_gty (T := "tuple") (by rfl) T.g_tuple) pa_nil))))) (pw_or (pt_cmpR (r := rNeD K) (op_neD hr.units) (pe_callB (id := "len") (r := rLenX K) call_lenX (by rfl) T.g_len (by decide +kernel) (pa_cons (pv 0) pa_nil)) pe_int (nomark _)) (pw_or1 (pt_not (pt_val (pe_call F_is_number (hr.mono (by decide)) (by rfl) T.g_is_number k_is_number b_is_number .nil pass0 (pa_cons (pe_ix (r := rIx K) ix_seq (pv 0) pe_int (fun _ _ => rfl)) (pa_cons pe_int (pa_cons (pe_op op_subX (pv 1) pe_int) pa_nil)))))))))) (pss_one (ps_ret pe_bl)) pss_nil)
      (pss_one (ps_ret (pe_or (pe_cmp (pc_isN (pe_ix (r := rIx K) ix_seq (pv 0) pe_int (fun _ _ => rfl))) rfl) (pe_one (pe_call F_is_word (hr.mono (by decide)) (by rfl) T.g_is_word k_is_word b_is_word .nil pass0 (pa_cons (pe_ix (r := rIx K) ix_seq (pv 0) pe_int (fun _ _ => rfl)) pa_nil))))))), ?_⟩
    try dsimp only [cxOf, Cx.nox, Cx.wish]
    refine q_if (k := false) (EdT.is (et_or (et_not (et_B (ed_isi (ed_v h1) (by rfl)))) fun _ => et_or (et_test (ed_op (ed_lenT (ed_v h1)) ed_int rd_neI)) fun _ => et_not (et_B (ed_call (ea_cons (ed_op (ed_v h1) ed_int (rd_ix (by rfl))) (ea_cons ed_int (ea_cons (ed_op (ed_v h2) ed_int rd_sub) ea_nil))) hT (by walk_at "kp") ⟨_, _, _, rfl, rfl⟩))) ?_) (fun q => by cases q) fun _ H1 e1 => ?_
    · have h3 : (0 : Int) ≤ (p.1 : Int) := by omega
      have h4 : (p.1 : Int) ≤ (n : Int) - 1 := by omega
      simp [h3, h4]
    · obtain ⟨p1, p2⟩ := p
      cases p2 with
      | none => exact st_ret (Ed.is (ed_orV (k := true) (ed_isN (ed_op (ed_v h1) ed_int (rd_ix (by rfl))) (by simp [eW])) (j := true) fun q => by cases q) rfl) fun v H2 e2 hv => hQ v H2 (e1.trans e2) hv
      | some x => exact st_ret (Ed.is (ed_orV (k := false) (ed_isN (ed_op (ed_v h1) ed_int (rd_ix (by rfl))) (by simp [eW])) fun _ => ed_call (ea_cons (ed_op (ed_v h1) ed_int (rd_ix (by rfl))) ea_nil) hT (by walk_at "kp") ⟨x, rfl, hw, rfl⟩) rfl) fun v H2 e2 hv => hQ v H2 (e1.trans e2) hv
def R_need_machine (ds : List Dt) (d : Dt) : Prop := ∃ (M : Mach) (G : Tbl) (m : Nat), ds = [eM M] ∧ House M G m ∧ d = .non
theorem sc_need_machine : FnScope ["value", "index", "state", "option"] ["value"] (defScope s_need_machine) := ⟨rfl, rfl, rfl, by decide +kernel, rfl, by decide +kernel, by decide +kernel⟩
theorem ok_need_machine (T : Txt w K mg base) : Ok P w K mg base 8 ("need_machine", none) ["value"] (SpF K (TL K) R_need_machine) := by
  obtain ⟨⟨fd_is_option, F_is_option, b_is_option⟩, k_is_option⟩ := ok_is_option (P := P) T
  refine ok_ofC (k := 7) T.f_need_machine sc_need_machine (fun vs H Q E h => ?_) (fun _ _ _ _ _ _ us hl => match us, hl with | [_], _ => rfl) (fun A outer s H vs Q E hr h => ?_)
  · obtain ⟨ds, d, hi, _, ⟨M, G, m, rfl, _⟩, _⟩ := h
    exact hi.length
  · obtain ⟨ds, d, hi, hT, ⟨M, G, m, rfl, hH, rfl⟩, hQ⟩ := h
    cases hi with | cons h1 hi =>
    cases hi
    rename_i vM
    refine ⟨_, (pss_cons (ps_if (PW.pt (pw_or (pt_not (pt_val (pe_callB (id := "isinstance") (r := rIsiX K) call_isiX (by rfl) T.g_isinstance (by decide +kernel) (pa_cons (pv 0) (pa_cons (pe_gty (T := "tuple") (by rfl) T.g_tuple) pa_nil))))) (pw_or1 (pt_not (pt_chain op_leX op_leX pe_int (pe_callB (id := "len") (r := rLenX K) call_lenX (by rfl) T.g_len (by decide +kernel) (pa_cons (pv 0) pa_nil)) (pe_gint (by rfl) T.g_MOST_STATES)))))) (pss_one ps_never) pss_nil)
      (pss_one (ps_for PassesOwn.never rfl (pi_enumT (by rfl) T.g_enumerate (pa_cons (pv 0) pa_nil)) (pg_tup rfl (pgs_cons (pg_name (i := 1) sc_need_machine.nd rfl (Or.inl rfl)) (pgs_cons (pg_name (i := 2) sc_need_machine.nd rfl (Or.inl rfl)) pgs_nil)))
        (pss_cons (ps_if (PW.pt (pw_or (pt_not (pt_val (pe_callB (id := "isinstance") (r := rIsiX K) call_isiX (by rfl) T.g_isinstance (by decide +kernel) (pa_cons (pv 2) (pa_cons (pe_gty (T := "tuple") (by rfl) T.g_tuple) pa_nil))))) (pw_or1 (pt_cmpR op_gtX (pe_callB (id := "len") (r := rLenX K) call_lenX (by rfl) T.g_len (by decide +kernel) (pa_cons (pv 2) pa_nil)) (pe_gint (by rfl) T.g_MOST_OPTIONS) (nomark _))))) (pss_one ps_never) pss_nil)
        (pss_one (ps_if (pt_not (pt_val (pe_allG (own := [("option", 3)]) hr (by rfl) T.g_all (T.tb _ (by decide)) rfl sc_need_machine.nd ⟨rfl, rfl, by decide +kernel, rfl⟩ (blkOk_by (N := ["value", "index", "state", "option"]) (sc := defScope s_need_machine) (by decide +kernel)) (pi_tup (pv 2)) (fun _ _ _ _ _ _ _ => (pg_name (i := 3) sc_need_machine.nd rfl (Or.inl rfl))) (fun _ _ _ _ _ _ _ hr => (pe_call F_is_option (hr.mono (by decide)) (by rfl) T.g_is_option k_is_option b_is_option .nil pass0 (pa_cons (pv 3) (pa_cons (pe_callB (id := "len") (r := rLenX K) call_lenX (by rfl) T.g_len (by decide +kernel) (pa_cons (pv 0) pa_nil)) pa_nil))))))) (pss_one ps_never) pss_nil)))))), ?_⟩
    try dsimp only [cxOf, Cx.nox, Cx.wish]
    refine rd_start [some vM, none, none, none] ?_
    refine q_if (k := false) (EdT.is (et_or (et_not (et_B (ed_isi (ed_v h1) (by rfl)))) fun _ => et_not (et_test (ed_chainLe ed_int (ed_lenT (ed_v h1)) ed_int))) ?_) (fun q => by cases q) fun _ H1 e1 => ?_
    · have h3 := hH.ne
      have h4 := hH.few
      rw [List.length_map]
      have h5 : (1 : Int) ≤ (M.length : Int) := by omega
      have h6 : (M.length : Int) ≤ 40 := by omega
      simp [h5, h6]
    refine st_forE (ed_v h1) (fun H2 j σ' H' => ∃ a b, σ' = [some vM, a, b, none] ∧ Ext H2 H') (fun H2 e2 => ⟨none, none, rfl, Ext.refl _⟩) ?_ ?_ ?_
    · rintro H2 j σ' H' ⟨_, _, _, q⟩
      exact q.kp
    · rintro H2 j v d σ' H' H3 e2 hd ⟨a, b, rfl, e3⟩ e4 hv
      rw [List.getElem?_map] at hd
      obtain ⟨st, hst, rfl⟩ := Option.map_eq_some_iff.mp hd
      have hm := List.mem_of_getElem? hst
      have hn := hH.st st hm
      refine g_pair hv fun x y hx hy => ?_
      refine rd_start' [some vM, some x, some y, none] ?_
      refine q_if (k := false) (EdT.is (et_or (et_not (et_B (ed_isi (ed_v hy) (by rfl)))) fun _ => et_test (ed_op (ed_lenT (ed_v hy)) ed_int rd_gt)) ?_) (fun q => by cases q) fun _ H5 e5 => ?_
      · rw [List.length_map]
        have h5 : ¬ (6 : Int) < (st.length : Int) := by omega
        simp [h5]
      refine st_if (k := false) (EdT.is (et_not (et_B (ed_allT (ed_v hy) (tabs_at hT) (by walk_at "kp") gm_name (fun _ => true) fun i u d H6 e6 hd2 hu => gx_name rfl ?_))) ?_) (fun q => by cases q) fun _ H6 e6 => ⟨_, _, rfl, by walk_at "ext"⟩
      · rw [List.getElem?_map] at hd2
        obtain ⟨p, hp, rfl⟩ := Option.map_eq_some_iff.mp hd2
        obtain ⟨q1, q2⟩ := hH.tgt st hm p (List.mem_of_getElem? hp)
        exact ed_call (ea_cons (ed_v hu) (ea_cons (Ed.is (ed_lenT (ed_v h1)) (show Dt.int ((M.map eSt).length : Int) = eN M.length by rw [List.length_map]; rfl)) ea_nil)) hT (by walk_at "kp") ⟨p, M.length, rfl, q1, q2, rfl⟩
      · simp
    · rintro H2 σ' H' e2 ⟨a, b, rfl, e3⟩
      exact hQ _ _ (e1.trans (e2.trans e3)) .non
def R_need_marks (ds : List Dt) (d : Dt) : Prop := ∃ m : Nat, ds = [eN m] ∧ 1 ≤ m ∧ m ≤ 2 ∧ d = .non
theorem sc_need_marks : FnScope ["value"] ["value"] (defScope s_need_marks) := ⟨rfl, rfl, rfl, by decide +kernel, rfl, by decide +kernel, by decide +kernel⟩
theorem ok_need_marks (T : Txt w K mg base) : Ok P w K mg base 2 ("need_marks", none) ["value"] (SpF K (TL K) R_need_marks) := by
  obtain ⟨⟨fd_is_number, F_is_number, b_is_number⟩, k_is_number⟩ := ok_is_number (P := P) T
  refine ok_of (k := 1) T.f_need_marks sc_need_marks (fun vs H Q E h => ?_) (fun _ _ _ _ _ _ us hl => match us, hl with | [_], _ => rfl) (fun cdv A outer s H vs Q E hr h => ?_)
  · obtain ⟨ds, d, hi, _, ⟨n, rfl, _⟩, _⟩ := h
    exact hi.length
  · obtain ⟨ds, d, hi, hT, ⟨n, rfl, p1, p2, rfl⟩, hQ⟩ := h
    cases hi with | cons h1 hi =>
    cases hi
    refine ⟨_, (pss_one (ps_if (pt_not (pt_val (pe_call F_is_number (hr.mono (by decide)) (by rfl) T.g_is_number k_is_number b_is_number .nil pass0 (pa_cons (pv 0) (pa_cons pe_int (pa_cons (pe_gint (by rfl) T.g_MOST_MARKS) pa_nil)))))) (pss_one ps_never) pss_nil)), ?_⟩
    try dsimp only [cxOf, Cx.nox, Cx.wish]
    refine st_if (k := false) (EdT.is (et_not (et_B (ed_call (ea_cons (ed_v h1) (ea_cons ed_int (ea_cons ed_int ea_nil))) hT (by walk_at "kp") ⟨_, _, _, rfl, rfl⟩))) ?_) (fun q => by cases q) fun _ H1 e1 => hQ _ _ e1 .non
    have h5 : (1 : Int) ≤ (n : Int) := by omega
    have h6 : (n : Int) ≤ 4 := by omega
    simp [h5, h6]
def R_is_row (ds : List Dt) (d : Dt) : Prop := ∃ (r : List Nat) (m : Nat), ds = [eL r, eN m, .int 8] ∧ 1 ≤ r.length ∧ r.length ≤ 8 ∧ (∀ x ∈ r, x < m) ∧ d = .bl true
theorem sc_is_row : FnScope ["value", "marks", "most", "mark"] ["value", "marks", "most"] (defScope s_is_row) := ⟨rfl, rfl, rfl, by decide +kernel, rfl, by decide +kernel, by decide +kernel⟩
theorem ok_is_row (T : Txt w K mg base) : OkD P w K mg base 4 ("is_row", none) ["value", "marks", "most"] [.int 8] (SpF K (TL K) R_is_row) := by
  obtain ⟨⟨fd_is_number, F_is_number, b_is_number⟩, k_is_number⟩ := ok_is_number (P := P) T
  refine ok_ofD (k := 3) 2 0 T.f_is_row sc_is_row (fun vs H Q E h => ?_) (by intro h; cases h) (by rfl) (fun _ _ _ _ _ _ _ us its hl hl2 => match us, hl, its, hl2 with | [_, _], _, [_], _ => ⟨_, rfl, rfl⟩) (fun A outer s H vs Q E hr h => ?_)
  · obtain ⟨ds, d, hi, _, ⟨r, m, rfl, _⟩, _⟩ := h
    exact hi.length
  · obtain ⟨ds, d, hi, hT, ⟨r, m, rfl, p1, p2, p3, rfl⟩, hQ⟩ := h
    cases hi with | cons h1 hi => cases hi with | cons h2 hi => cases hi with | cons h3 hi =>
    cases hi
    refine ⟨_, (pss_cons (ps_if (PW.pt (pw_or (pt_not (pt_val (pe_callB (id := "isinstance") (r := rIsiX K) call_isiX (by rfl) T.g_isinstance (by decide +kernel) (pa_cons (pv 0) (pa_cons (pe_gty (T := "tuple") (by rfl) T.g_tuple) pa_nil))))) (pw_or1 (pt_not (pt_chain op_leX op_leX pe_int (pe_callB (id := "len") (r := rLenX K) call_lenX (by rfl) T.g_len (by decide +kernel) (pa_cons (pv 0) pa_nil)) (pv 2)))))) (pss_one (ps_ret pe_bl)) pss_nil)
      (pss_one (ps_ret (pe_allG (own := [("mark", 3)]) hr (by rfl) T.g_all (T.tb _ (by decide)) rfl sc_is_row.nd ⟨rfl, rfl, by decide +kernel, rfl⟩ (blkOk_by (N := ["value", "marks", "most", "mark"]) (sc := defScope s_is_row) (by decide +kernel)) (pi_tup (pv 0)) (fun _ _ _ _ _ _ _ => (pg_name (i := 3) sc_is_row.nd rfl (Or.inl rfl))) (fun _ _ _ _ _ _ _ hr => (pe_call F_is_number (hr.mono (by decide)) (by rfl) T.g_is_number k_is_number b_is_number .nil pass0 (pa_cons (pv 3) (pa_cons pe_int (pa_cons (pe_op op_subX (pv 1) pe_int) pa_nil))))))))), ?_⟩
    try dsimp only [cxOf, Cx.nox, Cx.wish]
    refine q_if (k := false) (EdT.is (et_or (et_not (et_B (ed_isi (ed_v h1) (by rfl)))) fun _ => et_not (et_test (ed_chainLe ed_int (ed_lenT (ed_v h1)) (ed_v h3)))) ?_) (fun q => by cases q) fun _ H1 e1 => ?_
    · rw [List.length_map]
      have h5 : (1 : Int) ≤ (r.length : Int) := by omega
      have h6 : (r.length : Int) ≤ 8 := by omega
      simp [h5, h6]
    refine st_ret (Ed.is (ed_allT (ed_v h1) (tabs_at hT) (by walk_at "kp") gm_name (fun _ => true) fun i u d H6 e6 hd2 hu => gx_name rfl ?_) (by simp)) fun v H2 e2 hv => hQ v H2 (e1.trans e2) hv
    rw [List.getElem?_map] at hd2
    obtain ⟨x, hx, rfl⟩ := Option.map_eq_some_iff.mp hd2
    have hm := p3 x (List.mem_of_getElem? hx)
    refine ed_call (ea_cons (ed_v hu) (ea_cons ed_int (ea_cons (ed_op (ed_v h2) ed_int rd_sub) ea_nil))) hT (by walk_at "kp") ⟨_, _, _, rfl, ?_⟩
    have h5 : (0 : Int) ≤ (x : Int) := by omega
    have h6 : (x : Int) ≤ (m : Int) - 1 := by omega
    simp [h5, h6]
def R_need_table (ds : List Dt) (d : Dt) : Prop := ∃ (M : Mach) (G : Tbl) (m : Nat), ds = [eM M, eN m, eT G] ∧ House M G m ∧ d = .non
theorem sc_need_table : FnScope ["machine", "marks", "value", "index", "rows", "row"] ["machine", "marks", "value"] (defScope s_need_table) := ⟨rfl, rfl, rfl, by decide +kernel, rfl, by decide +kernel, by decide +kernel⟩
theorem ok_need_table (T : Txt w K mg base) : Ok P w K mg base 7 ("need_table", none) ["machine", "marks", "value"] (SpF K (TL K) R_need_table) := by
  obtain ⟨⟨fd_is_row, F_is_row, ds_is_row, v_is_row, b_is_row⟩, k_is_row⟩ := ok_is_row (P := P) T
  refine ok_ofC (k := 6) T.f_need_table sc_need_table (fun vs H Q E h => ?_) (fun _ _ _ _ _ _ us hl => match us, hl with | [_, _, _], _ => rfl) (fun A outer s H vs Q E hr h => ?_)
  · obtain ⟨ds, d, hi, _, ⟨M, G, m, rfl, _⟩, _⟩ := h
    exact hi.length
  · obtain ⟨ds, d, hi, hT, ⟨M, G, m, rfl, hH, rfl⟩, hQ⟩ := h
    cases hi with | cons h1 hi => cases hi with | cons h2 hi => cases hi with | cons h3 hi =>
    cases hi
    rename_i vM vm vG
    refine ⟨_, (pss_cons (ps_if (PW.pt (pw_or (pt_not (pt_val (pe_callB (id := "isinstance") (r := rIsiX K) call_isiX (by rfl) T.g_isinstance (by decide +kernel) (pa_cons (pv 2) (pa_cons (pe_gty (T := "tuple") (by rfl) T.g_tuple) pa_nil))))) (pw_or1 (pt_cmpR (r := rNeD K) (op_neD hr.units) (pe_callB (id := "len") (r := rLenX K) call_lenX (by rfl) T.g_len (by decide +kernel) (pa_cons (pv 2) pa_nil)) (pe_callB (id := "len") (r := rLenX K) call_lenX (by rfl) T.g_len (by decide +kernel) (pa_cons (pv 0) pa_nil)) (nomark _))))) (pss_one ps_never) pss_nil)
      (pss_one (ps_for PassesOwn.never rfl (pi_enumT (by rfl) T.g_enumerate (pa_cons (pv 2) pa_nil)) (pg_tup rfl (pgs_cons (pg_name (i := 3) sc_need_table.nd rfl (Or.inl rfl)) (pgs_cons (pg_name (i := 4) sc_need_table.nd rfl (Or.inl rfl)) pgs_nil)))
        (pss_cons (ps_if (PW.pt (pw_or (pt_not (pt_val (pe_callB (id := "isinstance") (r := rIsiX K) call_isiX (by rfl) T.g_isinstance (by decide +kernel) (pa_cons (pv 4) (pa_cons (pe_gty (T := "tuple") (by rfl) T.g_tuple) pa_nil))))) (pw_or1 (pt_cmpR (r := rNeD K) (op_neD hr.units) (pe_callB (id := "len") (r := rLenX K) call_lenX (by rfl) T.g_len (by decide +kernel) (pa_cons (pv 4) pa_nil)) (pe_callB (id := "len") (r := rLenX K) call_lenX (by rfl) T.g_len (by decide +kernel) (pa_cons (pe_ix (r := rIx K) ix_seq (pv 0) (pv 3) (fun _ _ => rfl)) pa_nil)) (nomark _))))) (pss_one ps_never) pss_nil)
        (pss_one (ps_if (pt_not (pt_val (pe_allG (own := [("row", 5)]) hr (by rfl) T.g_all (T.tb _ (by decide)) rfl sc_need_table.nd ⟨rfl, rfl, by decide +kernel, rfl⟩ (blkOk_by (N := ["machine", "marks", "value", "index", "rows", "row"]) (sc := defScope s_need_table) (by decide +kernel)) (pi_tup (pv 4)) (fun _ _ _ _ _ _ _ => (pg_name (i := 5) sc_need_table.nd rfl (Or.inl rfl))) (fun _ _ _ _ _ _ _ hr => (pe_call F_is_row (hr.mono (by decide)) (by rfl) T.g_is_row k_is_row b_is_row v_is_row pass0 (pa_cons (pv 5) (pa_cons (pv 1) pa_nil))))))) (pss_one ps_never) pss_nil)))))), ?_⟩
    try dsimp only [cxOf, Cx.nox, Cx.wish]
    refine rd_start [some vM, some vm, some vG, none, none, none] ?_
    refine q_if (k := false) (EdT.is (et_or (et_not (et_B (ed_isi (ed_v h3) (by rfl)))) fun _ => et_test (ed_op (ed_lenT (ed_v h3)) (ed_lenT (ed_v h1)) rd_neI)) ?_) (fun q => by cases q) fun _ H1 e1 => ?_
    · rw [List.length_map, List.length_map, hH.len]
      simp
    refine st_forE (ed_v h3) (fun H2 j σ' H' => ∃ a b, σ' = [some vM, some vm, some vG, a, b, none] ∧ Ext H2 H') (fun H2 e2 => ⟨none, none, rfl, Ext.refl _⟩) ?_ ?_ ?_
    · rintro H2 j σ' H' ⟨_, _, _, q⟩
      exact q.kp
    · rintro H2 j v d σ' H' H3 e2 hd ⟨a, b, rfl, e3⟩ e4 hv
      rw [List.getElem?_map] at hd
      obtain ⟨rs, hrs, rfl⟩ := Option.map_eq_some_iff.mp hd
      have hj := (List.getElem?_eq_some_iff.mp hrs).1
      have hst : M[j]? = some (M[j]'(by rw [← hH.len]; exact hj)) := List.getElem?_eq_getElem _
      have hlen := hH.rows j _ rs hst hrs
      refine g_pair hv fun x y hx hy => ?_
      refine rd_start' [some vM, some vm, some vG, some x, some y, none] ?_
      refine q_if (k := false) (EdT.is (et_or (et_not (et_B (ed_isi (ed_v hy) (by rfl)))) fun _ => et_test (ed_op (ed_lenT (ed_v hy)) (ed_lenT (ed_op (ed_v h1) (ed_v hx) (rd_ix (at_map hst)))) rd_neI)) ?_) (fun q => by cases q) fun _ H5 e5 => ?_
      · rw [List.length_map, List.length_map, hlen]
        simp
      refine st_if (k := false) (EdT.is (et_not (et_B (ed_allT (ed_v hy) (tabs_at hT) (by walk_at "kp") gm_name (fun _ => true) fun i u d H6 e6 hd2 hu => gx_name rfl ?_))) ?_) (fun q => by cases q) fun _ H6 e6 => ⟨_, _, rfl, by walk_at "ext"⟩
      · rw [List.getElem?_map] at hd2
        obtain ⟨r, hr, rfl⟩ := Option.map_eq_some_iff.mp hd2
        obtain ⟨q1, q2, q3⟩ := hH.row rs (List.mem_of_getElem? hrs) r (List.mem_of_getElem? hr)
        exact ed_callD (es := [.int 8]) (ea_cons (ed_v hu) (ea_cons (ed_v h2) ea_nil)) (fun H => .cons (.int 8) .nil) hT (by walk_at "kp") ⟨r, m, rfl, q1, by omega, q3, rfl⟩
      · simp
    · rintro H2 σ' H' e2 ⟨a, b, rfl, e3⟩
      exact hQ _ _ (e1.trans (e2.trans e3)) .non
def R_need_house (ds : List Dt) (d : Dt) : Prop := ∃ (M : Mach) (G : Tbl) (m : Nat), ds = [eM M, eN m, eT G] ∧ House M G m ∧ d = .non
theorem sc_need_house : FnScope ["machine", "marks", "table"] ["machine", "marks", "table"] (defScope s_need_house) := ⟨rfl, rfl, rfl, by decide +kernel, rfl, by decide +kernel, by decide +kernel⟩
theorem ok_need_house (T : Txt w K mg base) : Ok P w K mg base 9 ("need_house", none) ["machine", "marks", "table"] (SpF K (TL K) R_need_house) := by
  obtain ⟨⟨fd_need_machine, F_need_machine, b_need_machine⟩, k_need_machine⟩ := ok_need_machine (P := P) T
  obtain ⟨⟨fd_need_marks, F_need_marks, b_need_marks⟩, k_need_marks⟩ := ok_need_marks (P := P) T
  obtain ⟨⟨fd_need_table, F_need_table, b_need_table⟩, k_need_table⟩ := ok_need_table (P := P) T
  refine ok_of (k := 8) T.f_need_house sc_need_house (fun vs H Q E h => ?_) (fun _ _ _ _ _ _ us hl => match us, hl with | [_, _, _], _ => rfl) (fun cdv A outer s H vs Q E hr h => ?_)
  · obtain ⟨ds, d, hi, _, ⟨M, G, m, rfl, _⟩, _⟩ := h
    exact hi.length
  · obtain ⟨ds, d, hi, hT, ⟨M, G, m, rfl, hH, rfl⟩, hQ⟩ := h
    cases hi with | cons h1 hi => cases hi with | cons h2 hi => cases hi with | cons h3 hi =>
    cases hi
    refine ⟨_, (pss_cons (ps_expr (pe_call F_need_machine (hr.mono (by decide)) (by rfl) T.g_need_machine k_need_machine b_need_machine .nil pass0 (pa_cons (pv 0) pa_nil)))
      (pss_cons (ps_expr (pe_call F_need_marks (hr.mono (by decide)) (by rfl) T.g_need_marks k_need_marks b_need_marks .nil pass0 (pa_cons (pv 1) pa_nil)))
      (pss_one (ps_expr (pe_call F_need_table (hr.mono (by decide)) (by rfl) T.g_need_table k_need_table b_need_table .nil pass0 (pa_cons (pv 0) (pa_cons (pv 1) (pa_cons (pv 2) pa_nil)))))))), ?_⟩
    try dsimp only [cxOf, Cx.nox, Cx.wish]
    refine q_drop (ed_call (ea_cons (ed_v h1) ea_nil) hT (by walk_at "kp") ⟨M, G, m, rfl, hH, rfl⟩) fun H1 e1 => ?_
    refine q_drop (ed_call (ea_cons (ed_v h2) ea_nil) hT (by walk_at "kp") ⟨m, rfl, hH.mk1, hH.mk2, rfl⟩) fun H2 e2 => ?_
    exact st_drop (ed_call (ea_cons (ed_v h1) (ea_cons (ed_v h2) (ea_cons (ed_v h3) ea_nil))) hT (by walk_at "kp") ⟨M, G, m, rfl, hH, rfl⟩) fun H3 e3 => hQ _ _ (e1.trans (e2.trans e3)) .non
def R_need_manner (ds : List Dt) (d : Dt) : Prop := ∃ mn : Mn, ds = [.str mn.s] ∧ d = .non
theorem sc_need_manner : FnScope ["value"] ["value"] (defScope s_need_manner) := ⟨rfl, rfl, rfl, by decide +kernel, rfl, by decide +kernel, by decide +kernel⟩
theorem ok_need_manner (T : Txt w K mg base) : Ok P w K mg base 2 ("need_manner", none) ["value"] (SpF K (TL K) R_need_manner) := by
  refine ok_of (k := 1) T.f_need_manner sc_need_manner (fun vs H Q E h => ?_) (fun _ _ _ _ _ _ us hl => match us, hl with | [_], _ => rfl) (fun cdv A outer s H vs Q E hr h => ?_)
  · obtain ⟨ds, d, hi, _, ⟨M, rfl, _⟩, _⟩ := h
    exact hi.length
  · obtain ⟨ds, d, hi, hT, ⟨mn, rfl, rfl⟩, hQ⟩ := h
    cases hi with | cons h1 hi =>
    cases hi
    refine ⟨_, (pss_one (ps_if (PW.pt (pw_or (pt_not (pt_val (pe_callB (id := "isinstance") (r := rIsiX K) call_isiX (by rfl) T.g_isinstance (by decide +kernel) (pa_cons (pv 0) (pa_cons (pe_gty (T := "str") (by rfl) T.g_str) pa_nil))))) (pw_or1 (pt_cmpR (r := rInX K true) (op_ninX (u65 hr)) (pv 0) (pe_gref (by rfl) T.g_MANNERS) (by with_unfolding_all rfl))))) (pss_one ps_never) pss_nil)), ?_⟩
    try dsimp only [cxOf, Cx.nox, Cx.wish]
    have hc : ∀ H, Im K H (.ref (He.ga K "MANNERS")) (.tup ([Mn.sealed, .late, .early, .counted, .opened].map fun m => .str m.s)) := fun H => .tup (T.con 4 (h := rfl) H) (.cons (.str _) (.cons (.str _) (.cons (.str _) (.cons (.str _) (.cons (.str _) .nil)))))
    refine st_if (k := false) (EdT.is (et_or (et_not (et_B (ed_isi (ed_v h1) (by rfl)))) fun _ => et_test (k := false) (ed_op (ed_v h1) (ed_cst hc) (rd_ninT (n := 0) (m := 0) (by simpa only [ok] using mn.ok) ?_ ?_))) (by rfl)) (fun q => by cases q) fun _ H1 e1 => hQ _ _ e1 .non
    · intro e he
      obtain ⟨m, _, rfl⟩ := List.mem_map.mp he
      simpa only [ok] using m.ok
    · simp
      cases mn <;> simp
end
end K29
set_option Elab.async false
set_option linter.all false
set_option maxRecDepth 100000
set_option maxHeartbeats 4000000
/-! what lives tell: the walks; notes -/
namespace K29
open PySem PySem.Spec PyProof.Rows L2
local macro_rules | `(tactic| walk_at "kp") => `(tactic| first | exact Kp.refl _ | assumption | exact Chg.kp (by assumption) | (refine Kp.trans ?_ (Chg.kp (by assumption)); walk_at "kp"))
local macro_rules | `(tactic| walk_at "ext") => `(tactic| first | exact Ext.refl _ | assumption | (refine Ext.trans ?_ (by assumption); walk_at "ext"))

theorem g_trip {K : PySem.W.Frag} {σ : L2.St} {H : Hp} {i j k : Nat} {v : V} {a b c : Dt} {Q : L2.St → Hp → Prop} (h : Im K H v (.tup [a, b, c])) (q : ∀ x y z, Im K H x a → Im K H y b → Im K H z c → Q (((σ.set i (some x)).set j (some y)).set k (some z)) H) : gTup K 3 (gCons (gName i) (gCons (gName j) (gCons (gName k) gNil))) v σ H Q := by
  cases h with
  | tup s1 s2 =>
    cases s2 with
    | cons h1 t1 =>
      cases t1 with
      | cons h2 t2 =>
        cases t2 with
        | cons h3 t3 =>
          cases t3
          exact ⟨_, _, rfl, s1, rfl, _, _, rfl, _, _, rfl, _, _, rfl, rfl, q _ _ _ h1 h2 h3⟩
def alg (a b : List (Nat × Str)) : Bool := decide (b.take a.length = a) || decide (a.take b.length = b)
/-- a note -/
structure Nt where
  n : Nat
  k : Option Nat
  l : Life
  d : Nat
deriving DecidableEq
def eK : Option Nat → Dt
  | none => .non
  | some x => eN x
def eNt (t : Nt) : Dt := .tup [eN t.n, eK t.k, eL t.l, eN t.d]
theorem eK_inj {a b : Option Nat} : eK a = eK b ↔ a = b := by
  cases a <;> cases b <;> simp [eK, eN] <;> omega
theorem eNt_inj {a b : Nt} : eNt a = eNt b ↔ a = b := by
  obtain ⟨a1, a2, a3, a4⟩ := a
  obtain ⟨b1, b2, b3, b4⟩ := b
  simp [eNt, eN_inj, eK_inj, eL_inj]
theorem ok_eK {n : Nat} {k : Option Nat} : ok n (eK k) = true := by
  cases k with
  | none => exact ok_non
  | some x => exact ok_eN
theorem ok_eNt {t : Nt} {n : Nat} (h : 2 ≤ n := by decide) : ok n (eNt t) = true := by
  refine ok_mono h _ (ok_tup fun d hd => ?_)
  simp only [List.mem_cons, List.not_mem_nil, or_false] at hd
  rcases hd with rfl | rfl | rfl | rfl
  · exact ok_eN
  · exact ok_eK
  · exact ok_eL
  · exact ok_eN
section
variable {P : Program} {w : World} {K : PySem.W.Frag} {mg : Str → Option Value} {base : Heap}
def R_told_by (ds : List Dt) (d : Dt) : Prop := ∃ (M : Mach) (G : Tbl) (m : Nat) (l : Life) (s : Nat), ds = [eM M, eT G, eL l] ∧ House M G m ∧ go M 0 l = some s ∧ l.length ≤ 100 ∧ d = eTl (told M G l)
theorem sc_told_by : FnScope ["machine", "table", "life", "found", "count", "many", "word"] ["machine", "table", "life"] (defScope s_told_by) := ⟨rfl, rfl, rfl, by decide +kernel, rfl, by decide +kernel, by decide +kernel⟩
theorem ok_told_by (T : Txt w K mg base) : Ok P w K mg base 5 ("told_by", none) ["machine", "table", "life"] (SpF K (TL K) R_told_by) := by
  obtain ⟨⟨fd_row_of, F_row_of, b_row_of⟩, k_row_of⟩ := ok_row_of (P := P) T
  obtain ⟨⟨fd_word_of, F_word_of, b_word_of⟩, k_word_of⟩ := ok_word_of (P := P) T
  refine ok_of (k := 4) T.f_told_by sc_told_by (fun vs H Q E h => ?_) (fun _ _ _ _ _ _ us hl => match us, hl with | [_, _, _], _ => rfl) (fun cdv A outer s H vs Q E hr h => ?_)
  · obtain ⟨ds, d, hi, _, ⟨M, G, m, l, s, rfl, _⟩, _⟩ := h
    exact hi.length
  · obtain ⟨ds, d, hi, hT, ⟨M, G, m, l, s, rfl, hH, hg, hz, rfl⟩, hQ⟩ := h
    cases hi with | cons h1 hi => cases hi with | cons h2 hi => cases hi with | cons h3 hi =>
    cases hi
    rename_i vM vG vl
    refine ⟨_, (pss_cons (ps_par (i := 3) (j := 4) (by rfl) sc_told_by.nd rfl rfl (by decide) rfl rfl (pa_cons (pe_lst pa_nil) (pa_cons pe_int pa_nil)) (by rfl))
      (pss_cons (ps_for PassesOwn.never rfl (pi_range2 (by rfl) T.g_range (pa_cons pe_int (pa_cons (pe_op (r := rAddX K) op_addX (pe_callB (id := "len") (r := rLenX K) call_lenX (by rfl) T.g_len (by decide +kernel) (pa_cons (pv 2) pa_nil)) pe_int) pa_nil))) (pg_name (i := 5) sc_told_by.nd rfl (Or.inl rfl))
        (pss_cons (ps_aug (i := 4) sc_told_by.nd rfl (Or.inl rfl) (pe_callB (id := "len") (r := rLenX K) call_lenX (by rfl) T.g_len (by decide +kernel) (pa_cons (pe_call F_row_of (hr.mono (by decide)) (by rfl) T.g_row_of k_row_of b_row_of .nil pass0 (pa_cons (pv 0) (pa_cons (pv 1) (pa_cons (pe_slice (r := rSlX K) sl_X (pv 2) po_none (po_some (pv 5))) pa_nil)))) pa_nil)) ip_add)
        (pss_cons (ps_set (i := 6) sc_told_by.nd rfl (Or.inl rfl) (pe_call F_word_of (hr.mono (by decide)) (by rfl) T.g_word_of k_word_of b_word_of .nil pass0 (pa_cons (pv 0) (pa_cons (pe_slice (r := rSlX K) sl_X (pv 2) po_none (po_some (pv 5))) pa_nil))))
        (pss_one (ps_if (pt_cmp (pc_notN (pv 6))) (pss_one (ps_expr (pe_bm PySem.F.plainAttrs_list PySem.F.slot_list_append PySem.F.type_list_append mt_append (pv 3) (pa_cons (pe_tup (pa_cons (pv 4) (pa_cons (pv 6) pa_nil))) pa_nil)))) pss_nil)))))
      (pss_one (ps_ret (pe_callTy (T := "tuple") (r := rTupX K) call_tupX (by rfl) T.g_tuple (by decide +kernel) (pa_cons (pv 3) pa_nil)))))), ?_⟩
    try dsimp only [cxOf, Cx.nox, Cx.wish]
    refine rd_start [some vM, some vG, some vl, none, none, none, none] ?_
    have hlen : ((l.map eN).length : Int) = (l.length : Int) := by rw [List.length_map]
    refine q_seq (st_parL (K := K) (en_lst ea_nil (by decide)) ed_int fun f y H1 e1 nf hf hy => ?_)
    cases hy
    refine q_seq (st_forR2 ed_int (ed_op (ed_lenT (ed_v h3)) ed_int rd_addI) (by decide) (by decide) (by omega) (by omega) (fun j σ' H' => ∃ a b, σ' = [some vM, some vG, some vl, some (.ref f), some (.int ((mkN M G l j).length : Nat)), a, b] ∧ Ext H H' ∧ LsM K H' f ((tlN M G l j).map eTd) ∧ j ≤ l.length) ?_ ?_ ?_)
    · exact fun H2 e2 => ⟨none, none, rfl, e1.trans e2, hf.to e2, Nat.zero_le _⟩
    · rintro j σ' H' hj ⟨a, b, rfl, e2, hf2, hj2⟩
      have hj3 : j < l.length := by omega
      have ej : (1 : Int) + (j : Int) = ((j + 1 : Nat) : Int) := by omega
      rw [ej]
      obtain ⟨o, ho, et⟩ := take_at hj3
      obtain ⟨u, hu⟩ := go_take (j + 1) hg
      rw [et] at hu
      obtain ⟨u, p, rs, r, _, _, _, _, _, q1, q2, q3, hr, hw, hwok, hrT, hwT⟩ := last_of hH hu
      rw [← et] at hr hw hrT hwT
      have htl : (l.take (j + 1)).length ≤ 1000 := by
        rw [List.length_take]
        omega
      refine g_nm [some vM, some vG, some vl, some (.ref f), some (.int ((mkN M G l j).length : Nat)), some (.int ((j + 1 : Nat) : Int)), b] ?_
      refine q_aug (K := K) rfl (Ed.is (ed_lenT (ed_call (ea_cons (ed_v h1) (ea_cons (ed_v h2) (ea_cons (ed_takeL (ed_v h3) (by omega) ed_vi) ea_nil))) hT (by walk_at "kp") ⟨M, G, _, r, rfl, htl, hr, rfl⟩)) (show Dt.int ((r.map eN).length : Int) = .int (r.length : Nat) by rw [List.length_map])) fun H3 e3 => ?_
      have ec : ((mkN M G l j).length : Int) + (r.length : Int) = ((mkN M G l (j + 1)).length : Nat) := by
        show _ = (((mkN M G l j ++ rowT M G (l.take (j + 1))).length : Nat) : Int)
        rw [hrT, List.length_append]
        omega
      rw [ec]
      refine rd_start' [some vM, some vG, some vl, some (.ref f), some (.int ((mkN M G l (j + 1)).length : Nat)), some (.int ((j + 1 : Nat) : Int)), b] ?_
      refine q_set (ed_call (ea_cons (ed_v h1) (ea_cons (ed_takeL (ed_v h3) (by omega) ed_vi) ea_nil)) hT (by walk_at "kp") ⟨M, _, p.2, rfl, htl, hw, rfl⟩) fun y H4 e4 hy => ?_
      have hf4 := hf2.to (e3.trans e4)
      have etl : tlN M G l (j + 1) = tlN M G l j ++ (match p.2 with | none => [] | some w => [((mkN M G l (j + 1)).length, w)]) := by
        show tlN M G l j ++ _ = _
        rw [hwT] <;> rfl
      cases hp : p.2 with
      | none =>
        rw [hp] at hy etl
        refine st_if0 (k := false) (et_B (ed_notN (ed_v hy) (by simp [eW]))) rfl fun H5 e5 => ⟨_, _, rfl, by walk_at "ext", ?_, by omega⟩
        rw [etl, List.append_nil]
        exact hf4.to e5
      | some w =>
        rw [hp] at hy etl
        refine st_if1 (k := true) (et_B (ed_notN (ed_v hy) (by simp [eW]))) rfl fun H5 e5 => ?_
        have hz2 := tlN_len (M := M) (G := G) (l := l) j
        refine st_app (hf4.to e5) ev_v (ed_tup (ea_cons ed_vi (ea_cons (ed_v hy) ea_nil)) (by simp)) (by rw [List.length_map]; omega) fun H6 e6 hf6 => ⟨_, _, rfl, ?_, ?_, by omega⟩
        · exact ((e2.trans (e3.trans (e4.trans e5))).chg.trans e6).new nf
        · have e7 : (tlN M G l j).map eTd ++ [Dt.tup [eN (mkN M G l (j + 1)).length, eW (some w)]] = (tlN M G l (j + 1)).map eTd := by
            rw [etl, List.map_append]
            rfl
          rw [← e7]
          exact hf6
    · rintro σ' H' ⟨a, b, rfl, e2, hf2, hj2⟩
      have ej : (((l.map eN).length : Int) + 1 - 1).toNat = l.length := by
        rw [List.length_map]
        omega
      rw [ej] at hf2
      exact st_ret (ed_tupL (el_v hf2)) fun v H3 e3 hv => hQ v H3 (e2.trans e3) hv
def R_begins (ds : List Dt) (d : Dt) : Prop := ∃ a b : List (Nat × Str), ds = [eTl a, eTl b] ∧ TlOk a ∧ TlOk b ∧ d = .bl (decide (b.take a.length = a))
theorem sc_begins : FnScope ["one", "other"] ["one", "other"] (defScope s_begins) := ⟨rfl, rfl, rfl, by decide +kernel, rfl, by decide +kernel, by decide +kernel⟩
theorem ok_begins (T : Txt w K mg base) : Ok P w K mg base 1 ("begins", none) ["one", "other"] (SpF K (TL K) R_begins) := by
  refine ok_of (k := 0) T.f_begins sc_begins (fun vs H Q E h => ?_) (fun _ _ _ _ _ _ us hl => match us, hl with | [_, _], _ => rfl) (fun cdv A outer s H vs Q E hr h => ?_)
  · obtain ⟨ds, d, hi, _, ⟨M, G, rfl, _⟩, _⟩ := h
    exact hi.length
  · obtain ⟨ds, d, hi, hT, ⟨a, b, rfl, oa, ob, rfl⟩, hQ⟩ := h
    cases hi with | cons h1 hi => cases hi with | cons h2 hi =>
    cases hi
    refine ⟨_, (pss_one (ps_ret (pe_cmpR (r := rEqD K) (op_eqD hr.units) (pe_slice (r := rSlX K) sl_X (pv 1) po_none (po_some (pe_callB (id := "len") (r := rLenX K) call_lenX (by rfl) T.g_len (by decide +kernel) (pa_cons (pv 0) pa_nil)))) (pv 0) (nomark _)))), ?_⟩
    try dsimp only [cxOf, Cx.nox, Cx.wish]
    have e : cutD (b.map eTd) none (some (((a.map eTd).length : Nat) : Int)) = (b.take a.length).map eTd := by
      rw [cut_takeA, List.length_map, List.map_take]
    refine st_ret (ed_op (Ed.is (ed_sl (ed_v h2) eo_none (eo_some (ed_lenT (ed_v h1)))) (show _ = eTl (b.take a.length) from congrArg Dt.tup e)) (ed_v h1) (rd_eq (ok_eTl fun p hp => ob p (List.mem_of_mem_take hp)) (ok_eTl oa) ?_)) hQ
    rw [eTl_inj, decide_eq_true_iff]
def R_along (ds : List Dt) (d : Dt) : Prop := ∃ a b : List (Nat × Str), ds = [eTl a, eTl b] ∧ TlOk a ∧ TlOk b ∧ d = .bl (alg a b)
theorem sc_along : FnScope ["one", "other"] ["one", "other"] (defScope s_along) := ⟨rfl, rfl, rfl, by decide +kernel, rfl, by decide +kernel, by decide +kernel⟩
theorem ok_along (T : Txt w K mg base) : Ok P w K mg base 2 ("along", none) ["one", "other"] (SpF K (TL K) R_along) := by
  obtain ⟨⟨fd_begins, F_begins, b_begins⟩, k_begins⟩ := ok_begins (P := P) T
  refine ok_of (k := 1) T.f_along sc_along (fun vs H Q E h => ?_) (fun _ _ _ _ _ _ us hl => match us, hl with | [_, _], _ => rfl) (fun cdv A outer s H vs Q E hr h => ?_)
  · obtain ⟨ds, d, hi, _, ⟨M, G, rfl, _⟩, _⟩ := h
    exact hi.length
  · obtain ⟨ds, d, hi, hT, ⟨a, b, rfl, oa, ob, rfl⟩, hQ⟩ := h
    cases hi with | cons h1 hi => cases hi with | cons h2 hi =>
    cases hi
    refine ⟨_, (pss_one (ps_ret (pe_or (pe_call F_begins (hr.mono (by decide)) (by rfl) T.g_begins k_begins b_begins .nil pass0 (pa_cons (pv 0) (pa_cons (pv 1) pa_nil))) (pe_one (pe_call F_begins (hr.mono (by decide)) (by rfl) T.g_begins k_begins b_begins .nil pass0 (pa_cons (pv 1) (pa_cons (pv 0) pa_nil))))))), ?_⟩
    try dsimp only [cxOf, Cx.nox, Cx.wish]
    exact st_ret (ed_orV (ed_call (ea_cons (ed_v h1) (ea_cons (ed_v h2) ea_nil)) hT (by walk_at "kp") ⟨a, b, rfl, oa, ob, rfl⟩) fun _ => ed_call (ea_cons (ed_v h2) (ea_cons (ed_v h1) ea_nil)) hT (by walk_at "kp") ⟨b, a, rfl, ob, oa, rfl⟩) hQ
def R_order_of (ds : List Dt) (d : Dt) : Prop := ∃ t : Nt, ds = [eNt t] ∧ d = .tup [eN t.n, .int (match t.k with | none => -1 | some x => (x : Int)), eL t.l, eN t.d]
theorem sc_order_of : FnScope ["note"] ["note"] (defScope s_order_of) := ⟨rfl, rfl, rfl, by decide +kernel, rfl, by decide +kernel, by decide +kernel⟩
theorem ok_order_of (T : Txt w K mg base) : Ok P w K mg base 1 ("order_of", none) ["note"] (SpF K (TL K) R_order_of) := by
  refine ok_of (k := 0) T.f_order_of sc_order_of (fun vs H Q E h => ?_) (fun _ _ _ _ _ _ us hl => match us, hl with | [_], _ => rfl) (fun cdv A outer s H vs Q E hr h => ?_)
  · obtain ⟨ds, d, hi, _, ⟨M, rfl, _⟩, _⟩ := h
    exact hi.length
  · obtain ⟨ds, d, hi, hT, ⟨t, rfl, rfl⟩, hQ⟩ := h
    cases hi with | cons h1 hi =>
    cases hi
    refine ⟨_, (pss_one (ps_ret (pe_tup (pa_cons (pe_ix (r := rIx K) ix_seq (pv 0) pe_int (fun _ _ => rfl)) (pa_cons (pe_ifExp (pt_cmp (pc_isN (pe_ix (r := rIx K) ix_seq (pv 0) pe_int (fun _ _ => rfl)))) (pe_un un_neg pe_int) (pe_ix (r := rIx K) ix_seq (pv 0) pe_int (fun _ _ => rfl))) (pa_cons (pe_ix (r := rIx K) ix_seq (pv 0) pe_int (fun _ _ => rfl)) (pa_cons (pe_ix (r := rIx K) ix_seq (pv 0) pe_int (fun _ _ => rfl)) pa_nil))))))), ?_⟩
    try dsimp only [cxOf, Cx.nox, Cx.wish]
    obtain ⟨n, k, l, d⟩ := t
    refine st_ret (ed_tup (ea_cons (ed_op (ed_v h1) ed_int (rd_ix (by rfl))) (ea_cons ?_ (ea_cons (ed_op (ed_v h1) ed_int (rd_ix (by rfl))) (ea_cons (ed_op (ed_v h1) ed_int (rd_ix (by rfl))) ea_nil)))) (by simp)) hQ
    cases k with
    | none => exact ed_if (K := K) (k := true) (et_B (ed_isN (ed_op (ed_v h1) ed_int (rd_ix (by rfl))) (by simp [eK]))) (fun _ => ed_neg ed_int) fun q => by cases q
    | some x => exact ed_if (K := K) (k := false) (et_B (ed_isN (ed_op (ed_v h1) ed_int (rd_ix (by rfl))) (by simp [eK, eN]))) (fun q => by cases q) fun _ => ed_op (ed_v h1) ed_int (rd_ix (by rfl))
def R_is_same_note (ds : List Dt) (d : Dt) : Prop := ∃ a b : Nt, ds = [eNt a, eNt b] ∧ b.l.length ≤ 1000 ∧ d = .bl (decide (a = b))
theorem sc_is_same_note : FnScope ["one", "other", "part"] ["one", "other"] (defScope s_is_same_note) := ⟨rfl, rfl, rfl, by decide +kernel, rfl, by decide +kernel, by decide +kernel⟩
theorem ok_is_same_note (T : Txt w K mg base) : Ok P w K mg base 4 ("is_same_note", none) ["one", "other"] (SpF K (TL K) R_is_same_note) := by
  refine ok_ofC (k := 3) T.f_is_same_note sc_is_same_note (fun vs H Q E h => ?_) (fun _ _ _ _ _ _ us hl => match us, hl with | [_, _], _ => rfl) (fun A outer s H vs Q E hr h => ?_)
  · obtain ⟨ds, d, hi, _, ⟨M, G, rfl, _⟩, _⟩ := h
    exact hi.length
  · obtain ⟨ds, d, hi, hT, ⟨a, b, rfl, hz, rfl⟩, hQ⟩ := h
    cases hi with | cons h1 hi => cases hi with | cons h2 hi =>
    cases hi
    refine ⟨_, (pss_cons (ps_if (pt_cmpR (r := rNeD K) (op_neD hr.units) (pv 0) (pv 1) (nomark _)) (pss_one (ps_ret pe_bl)) pss_nil)
      (pss_one (ps_ret (pe_not (pe_anyG (own := [("part", 2)]) hr (by rfl) T.g_any (T.tb _ (by decide)) rfl sc_is_same_note.nd ⟨rfl, rfl, by decide +kernel, rfl⟩ (blkOk_by (N := ["one", "other", "part"]) (sc := defScope s_is_same_note) (by decide +kernel)) (pi_tup (pe_op (r := rAddX K) op_addX (pe_op (r := rAddX K) op_addX (pe_slice (r := rSlX K) sl_X (pv 1) po_none (po_some pe_int)) (pe_ix (r := rIx K) ix_seq (pv 1) pe_int (fun _ _ => rfl))) (pe_slice (r := rSlX K) sl_X (pv 1) (po_some pe_int) po_none))) (fun _ _ _ _ _ _ _ => (pg_name (i := 2) sc_is_same_note.nd rfl (Or.inl rfl))) (fun _ _ _ _ _ _ _ hr => (pe_callB (id := "isinstance") (r := rIsiX K) call_isiX (by rfl) T.g_isinstance (by decide +kernel) (pa_cons (pv 2) (pa_cons (pe_gty (T := "bool") (by rfl) T.g_bool) pa_nil))))))))), ?_⟩
    try dsimp only [cxOf, Cx.nox, Cx.wish]
    refine q_if (k := decide (a ≠ b)) (et_test (ed_op (ed_v h1) (ed_v h2) (rd_ne (n := 2) (m := 2) ok_eNt ok_eNt (by rw [decide_eq_true_iff, Ne, Ne, eNt_inj])))) (fun q H1 e1 => ?_) fun q H1 e1 => ?_
    · have e : decide (a = b) = false := decide_eq_false (of_decide_eq_true q)
      rw [e] at hQ
      exact st_ret (K := K) ed_bl fun v H2 e2 hv => hQ v H2 (e1.trans e2) hv
    · have e : decide (a = b) = true := by
        have := of_decide_eq_false q
        exact decide_eq_true (Classical.not_not.mp this)
      rw [e] at hQ
      obtain ⟨n, k, l, d⟩ := b
      have hl : (l.map eN).length = l.length := List.length_map ..
      have hz : l.length ≤ 1000 := hz
      have e2 : cutD [eN n, eK k, eL l, eN d] none (some ((2 : Int))) = [eN n, eK k] := by rfl
      have e3 : cutD [eN n, eK k, eL l, eN d] (some ((3 : Int))) none = [eN d] := by rfl
      dsimp only [tNext]
      refine st_ret (K := K) (d := .bl true) ?_ fun v H2 e2 hv => hQ v H2 (e1.trans e2) hv
      refine Ed.is (ed_notV (ed_anyT (ds := [eN n, eK k] ++ l.map eN ++ [eN d]) ?_ (tabs_at hT) (by walk_at "kp") gm_name (fun _ => false) fun i u d0 H6 e6 hd2 hu => gx_name rfl (ed_isi (ed_v hu) ?_))) ?_
      · have g1 : RD K (rAddX K) (.tup [eN n, eK k]) (eL l) (.tup ([eN n, eK k] ++ l.map eN)) := rd_addT (by simp only [List.length_cons, List.length_nil]; omega)
        have g2 : RD K (rAddX K) (.tup ([eN n, eK k] ++ l.map eN)) (.tup [eN d]) (.tup ([eN n, eK k] ++ l.map eN ++ [eN d])) := rd_addT (by simp only [List.length_append, List.length_cons, List.length_nil]; omega)
        refine ed_op (ed_op ?_ (ed_op (ed_v h2) ed_int (rd_ix (by rfl))) g1) ?_ g2
        · exact Ed.is (ed_sl (ed_v h2) eo_none (eo_some (K := K) ed_int)) (congrArg Dt.tup e2)
        · exact Ed.is (ed_sl (ed_v h2) (eo_some (K := K) ed_int) eo_none) (congrArg Dt.tup e3)
      · have hm := List.mem_of_getElem? hd2
        have key : (∃ i, d0 = .int i) ∨ d0 = .non := by
          simp only [List.mem_append, List.mem_cons, List.not_mem_nil, or_false, List.mem_map] at hm
          rcases hm with ((h | h) | ⟨x, _, h⟩) | h
          · exact .inl ⟨_, h⟩
          · cases k with
            | none => exact .inr h
            | some x => exact .inl ⟨_, h⟩
          · exact .inl ⟨_, h.symm⟩
          · exact .inl ⟨_, h⟩
        rcases key with ⟨i, rfl⟩ | rfl
        · rfl
        · rfl
      · simp
def R_law_state_behind (ds : List Dt) (d : Dt) : Prop := ∃ (M : Mach) (l : Life) (s : Nat), ds = [eM M, eL l] ∧ go M 0 l = some s ∧ d = eN s
theorem sc_law_state_behind : FnScope ["_law_machine_here", "_law_life", "_law_state", "_law_option"] ["_law_machine_here", "_law_life"] (defScope s_law_state_behind) := ⟨rfl, rfl, rfl, by decide +kernel, rfl, by decide +kernel, by decide +kernel⟩
theorem ok_law_state_behind (T : Txt w K mg base) : Ok P w K mg base 1 ("_law_state_behind", none) ["_law_machine_here", "_law_life"] (SpF K (TL K) R_law_state_behind) := by
  refine ok_of (k := 0) T.f_law_state_behind sc_law_state_behind (fun vs H Q E h => ?_) (fun _ _ _ _ _ _ us hl => match us, hl with | [_, _], _ => rfl) (fun cdv A outer s H vs Q E hr h => ?_)
  · obtain ⟨ds, d, hi, _, ⟨M, l, v, rfl, _⟩, _⟩ := h
    exact hi.length
  · obtain ⟨ds, d, hi, hT, ⟨M, l, s, rfl, hv, rfl⟩, hQ⟩ := h
    cases hi with | cons h1 hi => cases hi with | cons h2 hi =>
    cases hi
    rename_i vM vl
    refine ⟨_, (pss_cons (ps_set (i := 2) sc_law_state_behind.nd rfl (Or.inl rfl) pe_int)
      (pss_cons (ps_for PassesOwn.never rfl (pi_tup (pv 1)) (pg_name (i := 3) sc_law_state_behind.nd rfl (Or.inl rfl))
        (pss_one (ps_set (i := 2) sc_law_state_behind.nd rfl (Or.inl rfl) (pe_ix (r := rIx K) ix_seq (pe_ix (r := rIx K) ix_seq (pe_ix (r := rIx K) ix_seq (pv 0) (pv 2) (fun _ _ => rfl)) (pv 3) (fun _ _ => rfl)) pe_int (fun _ _ => rfl)))))
      (pss_one (ps_ret (pv 2))))), ?_⟩
    try dsimp only [cxOf, Cx.nox, Cx.wish]
    refine rd_start [some vM, some vl, none, none] ?_
    refine q_set (K := K) ed_int fun y H1 e1 hy => ?_
    refine q_seq (st_forT (ed_v h2) (fun H2 j σ' H' => ∃ (a b : Option V) (y : V) (u : Nat), σ' = [some vM, some vl, some y, b] ∧ Im K H' y (eN u) ∧ Ext H H' ∧ Kp H2 H' ∧ go M 0 (l.take j) = some u) ?_ ?_ ?_ ?_)
    · exact fun H2 e2 => ⟨none, none, y, 0, rfl, hy.to e2.kp, e1.trans e2, Kp.refl _, rfl⟩
    · rintro H2 j σ' H' ⟨_, _, _, _, _, _, _, q, _⟩
      exact q
    · rintro H2 j x d σ' H' e2 hd ⟨a, b, y, u, rfl, hy, e3, k3, hu⟩ hx
      rw [List.getElem?_map] at hd
      obtain ⟨o, ho, rfl⟩ := Option.map_eq_some_iff.mp hd
      obtain ⟨t, ht⟩ := go_take (j + 1) hv
      have et := take_snoc' ho
      rw [et] at ht
      obtain ⟨u', p, h4, h5, h6⟩ := go_snoc ht
      obtain rfl : u' = u := Option.some.inj (h4.symm.trans hu)
      obtain ⟨st, hst, hop⟩ := Option.bind_eq_some_iff.mp h5
      refine g_nm [some vM, some vl, some y, some x] ?_
      refine st_set (ed_op (ed_op (ed_op (ed_v h1) (ed_v hy) (rd_ix (at_map hst))) (ed_v hx) (rd_ix (at_map hop))) ed_int (rd_ix (by rfl))) fun z H4 e4 hz => ⟨none, _, z, p.1, rfl, hz, by walk_at "ext", by walk_at "kp", ?_⟩
      rw [et, ht, h6]
    · rintro H2 σ' H' e2 ⟨a, b, y, u, rfl, hy, e3, k3, hu⟩
      have e7 : (l.map eN).length = l.length := List.length_map ..
      rw [e7, List.take_length, hv] at hu
      cases hu
      exact st_ret (ed_v hy) fun v H3 e4 hv => hQ v H3 (e3.trans e4) hv
/-- marks and what is told, both -/
def R_law_spell (ds : List Dt) (d : Dt) : Prop := ∃ (M : Mach) (G : Tbl) (m : Nat) (l : Life) (s : Nat), ds = [eM M, eT G, eL l] ∧ House M G m ∧ go M 0 l = some s ∧ l.length ≤ 100 ∧ d = .tup [eL (mks M G l), eTl (told M G l)]
theorem sc_law_spell : FnScope ["_law_machine_here", "_law_table_here", "_law_life", "_law_state", "_law_marks", "_law_told", "_law_option", "_law_after", "_law_word"] ["_law_machine_here", "_law_table_here", "_law_life"] (defScope s_law_spell) := ⟨rfl, rfl, rfl, by decide +kernel, rfl, by decide +kernel, by decide +kernel⟩
theorem ok_law_spell (T : Txt w K mg base) : Ok P w K mg base 1 ("_law_spell", none) ["_law_machine_here", "_law_table_here", "_law_life"] (SpF K (TL K) R_law_spell) := by
  refine ok_of (k := 0) T.f_law_spell sc_law_spell (fun vs H Q E h => ?_) (fun _ _ _ _ _ _ us hl => match us, hl with | [_, _, _], _ => rfl) (fun cdv A outer s H vs Q E hr h => ?_)
  · obtain ⟨ds, d, hi, _, ⟨M, G, m, l, s, rfl, _⟩, _⟩ := h
    exact hi.length
  · obtain ⟨ds, d, hi, hT, ⟨M, G, m, l, s, rfl, hH, hg, hz, rfl⟩, hQ⟩ := h
    cases hi with | cons h1 hi => cases hi with | cons h2 hi => cases hi with | cons h3 hi =>
    cases hi
    rename_i vM vG vl
    refine ⟨_, (pss_cons (ps_asg (pe_tup (pa_cons pe_int (pa_cons (pe_tup pa_nil) (pa_cons (pe_tup pa_nil) pa_nil)))) (pg_tup rfl (pgs_cons (pg_name (i := 3) sc_law_spell.nd rfl (Or.inl rfl)) (pgs_cons (pg_name (i := 4) sc_law_spell.nd rfl (Or.inl rfl)) (pgs_cons (pg_name (i := 5) sc_law_spell.nd rfl (Or.inl rfl)) pgs_nil)))))
      (pss_cons (ps_for PassesOwn.never rfl (pi_tup (pv 2)) (pg_name (i := 6) sc_law_spell.nd rfl (Or.inl rfl))
        (pss_cons (ps_set (i := 4) sc_law_spell.nd rfl (Or.inl rfl) (pe_op (r := rAddX K) op_addX (pv 4) (pe_ix (r := rIx K) ix_seq (pe_ix (r := rIx K) ix_seq (pv 1) (pv 3) (fun _ _ => rfl)) (pv 6) (fun _ _ => rfl))))
        (pss_cons (ps_asg (pe_ix (r := rIx K) ix_seq (pe_ix (r := rIx K) ix_seq (pv 0) (pv 3) (fun _ _ => rfl)) (pv 6) (fun _ _ => rfl)) (pg_tup rfl (pgs_cons (pg_name (i := 7) sc_law_spell.nd rfl (Or.inl rfl)) (pgs_cons (pg_name (i := 8) sc_law_spell.nd rfl (Or.inl rfl)) pgs_nil))))
        (pss_cons (ps_if (pt_cmp (pc_notN (pv 8))) (pss_one (ps_set (i := 5) sc_law_spell.nd rfl (Or.inl rfl) (pe_op (r := rAddX K) op_addX (pv 5) (pe_tup (pa_cons (pe_tup (pa_cons (pe_callB (id := "len") (r := rLenX K) call_lenX (by rfl) T.g_len (by decide +kernel) (pa_cons (pv 4) pa_nil)) (pa_cons (pv 8) pa_nil))) pa_nil))))) pss_nil)
        (pss_one (ps_set (i := 3) sc_law_spell.nd rfl (Or.inl rfl) (pv 7)))))))
      (pss_one (ps_ret (pe_tup (pa_cons (pv 4) (pa_cons (pv 5) pa_nil))))))), ?_⟩
    try dsimp only [cxOf, Cx.nox, Cx.wish]
    refine rd_start [some vM, some vG, some vl, none, none, none, none, none, none] ?_
    refine q_seq ((ed_tup (ea_cons ed_int (ea_cons (ed_tup ea_nil (by decide)) (ea_cons (ed_tup ea_nil (by decide)) ea_nil))) (by simp)) H (Ext.refl _) _ fun v H1 e1 hv => g_trip hv fun x y z hx hy hz2 => ?_)
    refine q_seq (st_forT (ed_v h3) (fun H2 j σ' H' => ∃ (x y z : V) (a b c : Option V) (u : Nat), σ' = [some vM, some vG, some vl, some x, some y, some z, a, b, c] ∧ Im K H' x (eN u) ∧ Im K H' y (eL (mkN M G l j)) ∧ Im K H' z (eTl (tlN M G l j)) ∧ Ext H H' ∧ Kp H2 H' ∧ go M 0 (l.take j) = some u) ?_ ?_ ?_ ?_)
    · exact fun H2 e2 => ⟨x, y, z, none, none, none, 0, rfl, hx.to e2.kp, hy.to e2.kp, hz2.to e2.kp, e1.trans e2, Kp.refl _, rfl⟩
    · rintro H2 j σ' H' ⟨_, _, _, _, _, _, _, _, _, _, _, _, q, _⟩
      exact q
    · rintro H2 j xo d σ' H' e2 hd ⟨x, y, z, a, b, c, u, rfl, hx, hy, hz3, e3, k3, hu⟩ hxo
      rw [List.getElem?_map] at hd
      obtain ⟨o, ho, rfl⟩ := Option.map_eq_some_iff.mp hd
      have hj := (List.getElem?_eq_some_iff.mp ho).1
      obtain ⟨t, ht⟩ := go_take (j + 1) hg
      have et := take_snoc' ho
      rw [et] at ht
      obtain ⟨u', p, rs, r, h4, h5, h6, h7, h8, q1, q2, q3, hr, hw, hwok, hrT, hwT⟩ := last_of hH ht
      obtain rfl : u' = u := Option.some.inj (h4.symm.trans hu)
      rw [← et] at hr hw hrT hwT
      obtain ⟨st, hst, hop⟩ := Option.bind_eq_some_iff.mp h5
      have hml := mkN_len hH hg j (by omega)
      have htl := tlN_len (M := M) (G := G) (l := l) j
      have emk : mkN M G l (j + 1) = mkN M G l j ++ r := by
        show mkN M G l j ++ _ = _
        rw [hrT]
      have etl : tlN M G l (j + 1) = tlN M G l j ++ (match p.2 with | none => [] | some w => [((mkN M G l (j + 1)).length, w)]) := by
        show tlN M G l j ++ _ = _
        rw [hwT] <;> rfl
      refine g_nm [some vM, some vG, some vl, some x, some y, some z, some xo, b, c] ?_
      refine q_set (ed_op (ed_v hy) (ed_op (ed_op (ed_v h2) (ed_v hx) (rd_ix (at_map h7))) (ed_v hxo) (rd_ix (at_map h8))) (rd_addT (by rw [List.length_map, List.length_map]; omega))) fun y' H4 e4 hy' => ?_
      have hy2 : Im K H4 y' (eL (mkN M G l (j + 1))) := by
        rw [emk]
        unfold eL
        rw [List.map_append]
        exact hy'
      refine q_seq ((ed_op (ed_op (ed_v h1) (ed_v hx) (rd_ix (at_map hst))) (ed_v hxo) (rd_ix (at_map hop))) H4 (Ext.refl _) _ fun v H5 e5 hv => g_pair hv fun va vw hva hvw => ?_)
      refine rd_start' [some vM, some vG, some vl, some x, some y', some z, some xo, some va, some vw] ?_
      cases hp : p.2 with
      | none =>
        rw [hp] at hvw etl
        refine q_if (k := false) (et_B (ed_notN (ed_v hvw) (by simp [eW]))) (fun q => by cases q) fun _ H6 e6 => ?_
        refine st_set (ed_v hva) fun x2 H7 e7 hx2 => ⟨x2, y', z, _, _, _, p.1, rfl, hx2, hy2.to (by walk_at "kp"), ?_, by walk_at "ext", by walk_at "kp", ?_⟩
        · rw [etl, List.append_nil]
          exact hz3.to (by walk_at "kp")
        · rw [et, ht, h6]
      | some w =>
        rw [hp] at hvw etl
        refine q_if (k := true) (et_B (ed_notN (ed_v hvw) (by simp [eW]))) (fun _ H6 e6 => ?_) fun q => by cases q
        refine st_set (ed_op (ed_v hz3) (ed_tup (ea_cons (ed_tup (ea_cons (ed_lenT (ed_v hy2)) (ea_cons (ed_v hvw) ea_nil)) (by simp)) ea_nil) (by simp)) (rd_addT (by rw [List.length_map]; simp; omega))) fun z2 H7 e7 hz7 => ?_
        refine rd_start' [some vM, some vG, some vl, some x, some y', some z2, some xo, some va, some vw] ?_
        refine st_set (ed_v hva) fun x2 H8 e8 hx2 => ⟨x2, y', z2, _, _, _, p.1, rfl, hx2, hy2.to (by walk_at "kp"), ?_, by walk_at "ext", by walk_at "kp", ?_⟩
        · have e7 : Dt.tup ((tlN M G l j).map eTd ++ [Dt.tup [Dt.int (((mkN M G l (j + 1)).map eN).length : Nat), eW (some w)]]) = eTl (tlN M G l (j + 1)) := by
            rw [etl, List.length_map]
            unfold eTl
            rw [List.map_append]
            rfl
          rw [← e7]
          exact hz7.to (by walk_at "kp")
        · rw [et, ht, h6]
    · rintro H2 σ' H' e2 ⟨x, y, z, a, b, c, u, rfl, hx, hy, hz3, e3, k3, hu⟩
      have e7 : (l.map eN).length = l.length := List.length_map ..
      rw [e7] at hy hz3
      exact st_ret (ed_tup (ea_cons (ed_v hy) (ea_cons (ed_v hz3) ea_nil)) (by simp)) fun v H3 e4 hv => hQ v H3 (e3.trans e4) hv
def lalg (a b : List (Nat × Str)) : Bool := decide (a.take (min a.length b.length) = b.take (min a.length b.length))
def R_law_along (ds : List Dt) (d : Dt) : Prop := ∃ a b : List (Nat × Str), ds = [eTl a, eTl b] ∧ TlOk a ∧ TlOk b ∧ d = .bl (lalg a b)
theorem sc_law_along : FnScope ["_law_one", "_law_other", "_law_least_here"] ["_law_one", "_law_other"] (defScope s_law_along) := ⟨rfl, rfl, rfl, by decide +kernel, rfl, by decide +kernel, by decide +kernel⟩
theorem ok_law_along (T : Txt w K mg base) : Ok P w K mg base 1 ("_law_along", none) ["_law_one", "_law_other"] (SpF K (TL K) R_law_along) := by
  refine ok_of (k := 0) T.f_law_along sc_law_along (fun vs H Q E h => ?_) (fun _ _ _ _ _ _ us hl => match us, hl with | [_, _], _ => rfl) (fun cdv A outer s H vs Q E hr h => ?_)
  · obtain ⟨ds, d, hi, _, ⟨M, G, rfl, _⟩, _⟩ := h
    exact hi.length
  · obtain ⟨ds, d, hi, hT, ⟨a, b, rfl, oa, ob, rfl⟩, hQ⟩ := h
    cases hi with | cons h1 hi => cases hi with | cons h2 hi =>
    cases hi
    refine ⟨_, (pss_cons (ps_set (i := 2) sc_law_along.nd rfl (Or.inl rfl) (pe_callB (call_min2 rfl) (by rfl) T.g_min (by decide +kernel) (pa_cons (pe_callB (id := "len") (r := rLenX K) call_lenX (by rfl) T.g_len (by decide +kernel) (pa_cons (pv 0) pa_nil)) (pa_cons (pe_callB (id := "len") (r := rLenX K) call_lenX (by rfl) T.g_len (by decide +kernel) (pa_cons (pv 1) pa_nil)) pa_nil))))
      (pss_one (ps_ret (pe_cmpR (r := rEqD K) (op_eqD hr.units) (pe_slice (r := rSlX K) sl_X (pv 0) po_none (po_some (pv 2))) (pe_slice (r := rSlX K) sl_X (pv 1) po_none (po_some (pv 2))) (nomark _))))), ?_⟩
    try dsimp only [cxOf, Cx.nox, Cx.wish]
    have em : (if ((b.map eTd).length : Int) < ((a.map eTd).length : Int) then ((b.map eTd).length : Int) else ((a.map eTd).length : Int)) = ((min a.length b.length : Nat) : Int) := by
      rw [List.length_map, List.length_map]
      split <;> omega
    refine q_set (Ed.is (ed_min (ed_lenT (ed_v h1)) (ed_lenT (ed_v h2))) (congrArg Dt.int em)) fun y H1 e1 hy => ?_
    have e2 : ∀ c : List (Nat × Str), Dt.tup (cutD (c.map eTd) none (some ((min a.length b.length : Nat) : Int))) = eTl (c.take (min a.length b.length)) := fun c => by
      rw [cut_takeA]
      unfold eTl
      rw [List.map_take]
    refine st_ret (ed_op (Ed.is (ed_sl (ed_v h1) eo_none (eo_some (ed_v hy))) (e2 a)) (Ed.is (ed_sl (ed_v h2) eo_none (eo_some (ed_v hy))) (e2 b)) (rd_eq (ok_eTl fun p hp => oa p (List.mem_of_mem_take hp)) (ok_eTl fun p hp => ob p (List.mem_of_mem_take hp)) ?_)) fun v H3 e4 hv => hQ v H3 (e1.trans e4) hv
    rw [eTl_inj, lalg, decide_eq_true_iff]
end
/-- the two tests say the same -/
theorem lalg_eq (a b : List (Nat × Str)) : lalg a b = alg a b := by
  unfold lalg alg
  rw [Bool.eq_iff_iff, Bool.or_eq_true, decide_eq_true_iff, decide_eq_true_iff, decide_eq_true_iff]
  rcases Nat.le_total a.length b.length with h | h
  · rw [Nat.min_eq_left h, List.take_length]
    constructor
    · exact fun q => .inl q.symm
    · rintro (q | q)
      · exact q.symm
      · rw [List.take_of_length_le h] at q
        subst q
        rw [List.take_length]
  · rw [Nat.min_eq_right h, List.take_length]
    constructor
    · exact fun q => .inr q
    · rintro (q | q)
      · rw [List.take_of_length_le h] at q
        subst q
        rw [List.take_length]
      · exact q
theorem alg_symm (a b : List (Nat × Str)) : alg a b = alg b a := Bool.or_comm ..
end K29
set_option Elab.async false
set_option linter.all false
set_option maxRecDepth 100000
set_option maxHeartbeats 4000000
/-! a machine in its enemy's hands, in plain Lean; its data -/
namespace K29
open PySem PySem.Spec PyProof.Rows L2
inductive Sg where
  | off | mute
  | choice (l : Life)
  | ready (l : Life) (d : Nat)
  | laid (t : Nt)
  | bare (l : Life) (d : Nat)
deriving DecidableEq
inductive Stp where
  | boot (t : Nt) | ask (o : Nat) | turn | put | cut
deriving DecidableEq
structure WS where
  rd : Nat × Option Nat
  shelf : List Nt
  stand : Sg
  heard : List (Nat × Str)
  spoken : List Life
deriving DecidableEq
def WS.start : WS := ⟨(0, none), [⟨0, none, [], 0⟩], .off, [], []⟩
def fitsW (mn : Mn) (rd : Nat × Option Nat) (t : Nt) : Bool := match mn with
  | .opened => true
  | .counted => decide (t.n = rd.1)
  | _ => decide (t.n = rd.1) && decide (t.k = rd.2)
section
variable (mn : Mn) (M : Mach) (G : Tbl)
def sayW (l : Life) (n : Nat) (S : WS) : WS := match wordT M l with
  | none => S
  | some w => { S with heard := S.heard ++ [(n, w)], spoken := if l ∈ S.spoken then S.spoken else S.spoken ++ [l] }
def putW (t : Nt) (S : WS) : WS := { S with shelf := if t ∈ S.shelf then S.shelf else S.shelf ++ [t] }
def comeW (l : Life) (d : Nat) (S : WS) : WS :=
  if d = (rowT M G l).length then { (if mn = .early then S else sayW M l S.rd.1 S) with stand := .choice l }
  else if mn = .late then { S with stand := .ready l d }
  else { (if mn = .early ∧ d + 1 = (rowT M G l).length then sayW M l (S.rd.1 + 1) (putW ⟨S.rd.1 + 1, some ((rowT M G l).getD d 0), l, d + 1⟩ S) else putW ⟨S.rd.1 + 1, some ((rowT M G l).getD d 0), l, d + 1⟩ S) with stand := .laid ⟨S.rd.1 + 1, some ((rowT M G l).getD d 0), l, d + 1⟩ }
def stepW (S : WS) : Stp → WS
  | .boot t => if fitsW mn S.rd t then comeW mn M G t.l t.d S else { S with stand := .mute }
  | .ask o => (match S.stand with | .choice l => comeW mn M G (l ++ [o]) 0 S | _ => S)
  | .turn => (match S.stand with
    | .laid t => comeW mn M G t.l t.d { S with rd := (S.rd.1 + 1, t.k) }
    | .ready l d => { S with rd := (S.rd.1 + 1, some ((rowT M G l).getD d 0)), stand := .bare l (d + 1) }
    | _ => S)
  | .put => (match S.stand with | .bare l d => comeW mn M G l d (putW ⟨S.rd.1, S.rd.2, l, d⟩ S) | _ => S)
  | .cut => { S with stand := .off }
/-- how many options there are behind a life -/
def optsN (l : Life) : Nat := ((go M 0 l).bind fun s => (M[s]?).map (·.length)).getD 0
def canW (S : WS) : List Stp := match S.stand with
  | .off => S.shelf.map .boot
  | .choice l => .cut :: (List.range (optsN M l)).map .ask
  | .laid _ => [.cut, .turn]
  | .ready _ _ => [.cut, .turn]
  | .bare _ _ => [.cut, .put]
  | .mute => [.cut]
/-- those that lead on: of the notes those that fit -/
def canP (S : WS) : List Stp := match S.stand with
  | .off => (S.shelf.filter fun t => fitsW mn S.rd t).map .boot
  | _ => canW M S
def deadW (S : WS) : Bool := !(S.shelf.any fun t => fitsW mn S.rd t)
/-- two lives that spoke tell otherwise -/
def TwoW (S : WS) : Prop := ∃ a ∈ S.spoken, ∃ b ∈ S.spoken, alg (told M G a) (told M G b) = false
open Classical in
noncomputable def harmW (S : WS) : Option Str := if TwoW M G S then some "two lives" else if deadW mn S then some "dead" else none
end
/-! ### what holds of them -/
/-- a life of at most n options -/
def LvN (M : Mach) (n : Nat) (l : Life) : Prop := (∃ s, go M 0 l = some s) ∧ l.length ≤ n
structure NtN (M : Mach) (G : Tbl) (n : Nat) (t : Nt) : Prop where
  lv : LvN M n t.l
  d : t.d ≤ (rowT M G t.l).length
def SgN (M : Mach) (G : Tbl) (n : Nat) : Sg → Prop
  | .off => True
  | .mute => True
  | .choice l => LvN M n l
  | .ready l d => LvN M n l ∧ d < (rowT M G l).length
  | .laid t => NtN M G n t
  | .bare l d => LvN M n l ∧ d ≤ (rowT M G l).length
structure GoodW (M : Mach) (G : Tbl) (n : Nat) (S : WS) : Prop where
  sg : SgN M G n S.stand
  sh : ∀ t ∈ S.shelf, NtN M G n t
  sp : ∀ l ∈ S.spoken, LvN M n l ∧ l ≠ []
  hd : ∀ p ∈ S.heard, PyData.strOk p.2 = true
  ls : S.shelf.length ≤ n + 1
  lp : S.spoken.length ≤ n
  lh : S.heard.length ≤ n
section
variable {mn : Mn} {M : Mach} {G : Tbl} {m n n' : Nat} {S : WS}
theorem LvN.mono {l : Life} (h : LvN M n l) (k : n ≤ n') : LvN M n' l := ⟨h.1, Nat.le_trans h.2 k⟩
theorem NtN.mono {t : Nt} (h : NtN M G n t) (k : n ≤ n') : NtN M G n' t := ⟨h.lv.mono k, h.d⟩
theorem SgN.mono {s : Sg} (h : SgN M G n s) (k : n ≤ n') : SgN M G n' s := by
  cases s with
  | off => trivial
  | mute => trivial
  | choice l => exact LvN.mono h k
  | ready l d => exact ⟨h.1.mono k, h.2⟩
  | laid t => exact NtN.mono h k
  | bare l d => exact ⟨h.1.mono k, h.2⟩
theorem GoodW.mono (h : GoodW M G n S) (k : n ≤ n') : GoodW M G n' S := ⟨h.sg.mono k, fun t ht => (h.sh t ht).mono k, fun l hl => ⟨(h.sp l hl).1.mono k, (h.sp l hl).2⟩, h.hd, by have := h.ls; omega, by have := h.lp; omega, by have := h.lh; omega⟩
theorem good_start : GoodW M G 0 WS.start := by
  refine ⟨trivial, fun t ht => ?_, fun l hl => ?_, fun p hp => ?_, ?_, ?_, ?_⟩
  · cases List.mem_singleton.mp ht
    exact ⟨⟨⟨0, rfl⟩, Nat.le_refl _⟩, Nat.zero_le _⟩
  · cases hl
  · cases hp
  · simp [WS.start]
  · simp [WS.start]
  · simp [WS.start]
theorem rowT_nil : rowT M G [] = [] := rfl
theorem wordT_nil : wordT M [] = none := rfl
/-- what a life of a house has as its last -/
theorem last_row (h : House M G m) {l : Life} (hl : LvN M n l) (hne : l ≠ []) : rowOf M G l = some (rowT M G l) ∧ wordOf M l = some (wordT M l) ∧ WdOk (wordT M l) ∧ 1 ≤ (rowT M G l).length ∧ (rowT M G l).length ≤ 2 := by
  rcases nil_or_snoc l with rfl | ⟨l', o, rfl⟩
  · exact absurd rfl hne
  · obtain ⟨⟨s, hs⟩, _⟩ := hl
    obtain ⟨u, p, rs, r, _, _, _, _, _, q1, q2, _, hr, hw, hok, e1, e2⟩ := last_of h hs
    rw [e1, e2]
    exact ⟨hr, hw, hok, q1, q2⟩
theorem word_ok (h : House M G m) {l : Life} (hl : LvN M n l) : wordOf M l = some (wordT M l) ∧ WdOk (wordT M l) := by
  by_cases e : l = []
  · subst e
    exact ⟨rfl, fun s hs => by cases hs⟩
  · have z := last_row h hl e
    exact ⟨z.2.1, z.2.2.1⟩
/-- how much a saying adds -/
structure Grown (M : Mach) (G : Tbl) (n j k : Nat) (S : WS) : Prop where
  sh : ∀ t ∈ S.shelf, NtN M G n t
  sp : ∀ l ∈ S.spoken, LvN M n l ∧ l ≠ []
  hd : ∀ p ∈ S.heard, PyData.strOk p.2 = true
  ls : S.shelf.length ≤ j
  lp : S.spoken.length ≤ k
  lh : S.heard.length ≤ k
theorem GoodW.grown (h : GoodW M G n S) : Grown M G n (n + 1) n S := ⟨h.sh, h.sp, h.hd, h.ls, h.lp, h.lh⟩
theorem Grown.say {j k x : Nat} {l : Life} (h : House M G m) (g : Grown M G n j k S) (hl : LvN M n l) : Grown M G n j (k + 1) (sayW M l x S) := by
  unfold sayW
  cases e : wordT M l with
  | none => exact ⟨g.sh, g.sp, g.hd, g.ls, Nat.le_succ_of_le g.lp, Nat.le_succ_of_le g.lh⟩
  | some w =>
    have hne : l ≠ [] := fun z => by
      rw [z] at e
      cases e
    refine ⟨g.sh, fun l' hl' => ?_, fun p hp => ?_, g.ls, ?_, ?_⟩
    · dsimp only at hl'
      split at hl'
      · exact g.sp l' hl'
      · rcases List.mem_append.mp hl' with z | z
        · exact g.sp l' z
        · cases List.mem_singleton.mp z
          exact ⟨hl, hne⟩
    · rcases List.mem_append.mp hp with z | z
      · exact g.hd p z
      · cases List.mem_singleton.mp z
        exact ((word_ok h hl).2 w e).1
    · dsimp only
      have := g.lp
      split
      · omega
      · rw [List.length_append]
        simp
        omega
    · have := g.lh
      simp
      omega
theorem Grown.put {j k : Nat} {t : Nt} (g : Grown M G n j k S) (ht : NtN M G n t) : Grown M G n (j + 1) k (putW t S) := by
  refine ⟨fun t' ht' => ?_, g.sp, g.hd, ?_, g.lp, g.lh⟩
  · unfold putW at ht'
    dsimp only at ht'
    split at ht'
    · exact g.sh t' ht'
    · rcases List.mem_append.mp ht' with z | z
      · exact g.sh t' z
      · cases List.mem_singleton.mp z
        exact ht
  · unfold putW
    dsimp only
    have := g.ls
    split
    · omega
    · simp
      omega
theorem Grown.mono {j k j' k' : Nat} (g : Grown M G n j k S) (h1 : j ≤ j') (h2 : k ≤ k') : Grown M G n j' k' S := ⟨g.sh, g.sp, g.hd, Nat.le_trans g.ls h1, Nat.le_trans g.lp h2, Nat.le_trans g.lh h2⟩
theorem Grown.up {j k : Nat} (g : Grown M G n j k S) (h : n ≤ n') : Grown M G n' j k S := ⟨fun t ht => (g.sh t ht).mono h, fun l hl => ⟨(g.sp l hl).1.mono h, (g.sp l hl).2⟩, g.hd, g.ls, g.lp, g.lh⟩
theorem Grown.good {s : Sg} {j k : Nat} (g : Grown M G n j k S) (hs : SgN M G n s) (h1 : j ≤ n + 1) (h2 : k ≤ n) : GoodW M G n { S with stand := s } := ⟨hs, g.sh, g.sp, g.hd, Nat.le_trans g.ls h1, Nat.le_trans g.lp h2, Nat.le_trans g.lh h2⟩
/-- a place on the shelf may be new before, a word said within -/
theorem come_good {l : Life} {d j : Nat} (h : House M G m) (g : Grown M G (n + 1) j n S) (hl : LvN M (n + 1) l) (hd : d ≤ (rowT M G l).length) (hj : j ≤ n + 1 ∨ (j ≤ n + 2 ∧ mn = .late)) : GoodW M G (n + 1) (comeW mn M G l d S) := by
  unfold comeW
  split
  · have g2 : Grown M G (n + 1) j (n + 1) (if mn = .early then S else sayW M l S.rd.1 S) := by
      split
      · exact g.mono (Nat.le_refl _) (Nat.le_succ _)
      · exact g.say h hl
    exact g2.good hl (by rcases hj with z | z <;> omega) (Nat.le_refl _)
  · rename_i hne
    have hd2 : d < (rowT M G l).length := by omega
    split
    · exact (g.mono (Nat.le_refl _) (Nat.le_succ _)).good ⟨hl, hd2⟩ (by rcases hj with z | z <;> omega) (Nat.le_refl _)
    · rename_i hml
      have hj2 : j ≤ n + 1 := by
        rcases hj with z | z
        · exact z
        · exact absurd z.2 hml
      have hnt : NtN M G (n + 1) ⟨S.rd.1 + 1, some ((rowT M G l).getD d 0), l, d + 1⟩ := ⟨hl, hd2⟩
      have g1 := g.put hnt
      have g2 : Grown M G (n + 1) (j + 1) (n + 1) (if mn = .early ∧ d + 1 = (rowT M G l).length then sayW M l (S.rd.1 + 1) (putW ⟨S.rd.1 + 1, some ((rowT M G l).getD d 0), l, d + 1⟩ S) else putW ⟨S.rd.1 + 1, some ((rowT M G l).getD d 0), l, d + 1⟩ S) := by
        split
        · exact g1.say h hl
        · exact g1.mono (Nat.le_refl _) (Nat.le_succ _)
      exact g2.good hnt (by omega) (Nat.le_refl _)
end
/-- bare only when late -/
def LateW (mn : Mn) (S : WS) : Prop := match S.stand with
  | .bare _ _ => mn = .late
  | .ready _ _ => mn = .late
  | _ => True
section
variable {mn : Mn} {M : Mach} {G : Tbl} {m n n' : Nat} {S : WS}
theorem come_late {l : Life} {d : Nat} : LateW mn (comeW mn M G l d S) := by
  unfold comeW
  by_cases h1 : d = (rowT M G l).length
  · rw [if_pos h1]
    trivial
  · rw [if_neg h1]
    by_cases h2 : mn = .late
    · rw [if_pos h2]
      exact h2
    · rw [if_neg h2]
      trivial
theorem step_late {st : Stp} (h : LateW mn S) : LateW mn (stepW mn M G S st) := by
  cases st with
  | boot t =>
    unfold stepW
    dsimp only
    split
    · exact come_late
    · trivial
  | ask o =>
    unfold stepW
    dsimp only
    split
    · exact come_late
    · exact h
  | turn =>
    unfold stepW
    dsimp only
    split
    · exact come_late
    · rename_i e
      unfold LateW at h
      rw [e] at h
      exact h
    · exact h
  | put =>
    unfold stepW
    dsimp only
    split
    · exact come_late
    · exact h
  | cut => trivial
/-- an option that there is -/
theorem ask_life (h : House M G m) {l : Life} {o : Nat} (hl : LvN M n l) (ho : o < optsN M l) : LvN M (n + 1) (l ++ [o]) := by
  obtain ⟨⟨s, hs⟩, hz⟩ := hl
  unfold optsN at ho
  rw [hs] at ho
  cases hst : M[s]? with
  | none =>
    simp only [Option.bind_some, hst, Option.map_none, Option.getD_none] at ho
    omega
  | some st =>
    simp only [Option.bind_some, hst, Option.map_some, Option.getD_some] at ho
    refine ⟨⟨(st[o]).1, ?_⟩, by simp; omega⟩
    rw [go_append, hs, Option.bind_some, go_one]
    unfold K29.opt
    rw [hst, Option.bind_some, List.getElem?_eq_getElem ho]
    rfl
/-- a step that can be done keeps what holds -/
theorem step_good {st : Stp} (h : House M G m) (g : GoodW M G n S) (hL : LateW mn S) (hc : st ∈ canW M S) : GoodW M G (n + 1) (stepW mn M G S st) := by
  have g1 := g.grown.up (Nat.le_succ n)
  cases hs : S.stand with
  | off =>
    unfold canW at hc
    rw [hs] at hc
    obtain ⟨t, ht, rfl⟩ := List.mem_map.mp hc
    unfold stepW
    dsimp only
    have hn := (g.sh t ht).mono (Nat.le_succ n)
    split
    · exact come_good h g1 hn.lv hn.d (.inl (Nat.le_refl _))
    · exact (g1.mono (Nat.le_refl _) (Nat.le_succ _)).good trivial (by omega) (Nat.le_refl _)
  | choice l =>
    have hl : LvN M n l := by
      have := g.sg
      rw [hs] at this
      exact this
    unfold canW at hc
    rw [hs] at hc
    rcases List.mem_cons.mp hc with rfl | hc
    · exact (g1.mono (Nat.le_refl _) (Nat.le_succ _)).good trivial (by omega) (Nat.le_refl _)
    · obtain ⟨o, ho, rfl⟩ := List.mem_map.mp hc
      unfold stepW
      rw [hs]
      exact come_good h g1 (ask_life h hl (List.mem_range.mp ho)) (Nat.zero_le _) (.inl (Nat.le_refl _))
  | laid t =>
    have ht : NtN M G n t := by
      have := g.sg
      rw [hs] at this
      exact this
    unfold canW at hc
    rw [hs] at hc
    simp only [List.mem_cons, List.not_mem_nil, or_false] at hc
    rcases hc with rfl | rfl
    · exact (g1.mono (Nat.le_refl _) (Nat.le_succ _)).good trivial (by omega) (Nat.le_refl _)
    · unfold stepW
      rw [hs]
      exact come_good h ⟨g1.sh, g1.sp, g1.hd, g1.ls, g1.lp, g1.lh⟩ (ht.mono (Nat.le_succ n)).lv ht.d (.inl (Nat.le_refl _))
  | ready l d =>
    have ht : LvN M n l ∧ d < (rowT M G l).length := by
      have := g.sg
      rw [hs] at this
      exact this
    unfold canW at hc
    rw [hs] at hc
    simp only [List.mem_cons, List.not_mem_nil, or_false] at hc
    rcases hc with rfl | rfl
    · exact (g1.mono (Nat.le_refl _) (Nat.le_succ _)).good trivial (by omega) (Nat.le_refl _)
    · unfold stepW
      rw [hs]
      exact ⟨⟨ht.1.mono (Nat.le_succ n), ht.2⟩, g1.sh, g1.sp, g1.hd, by have := g1.ls; dsimp only; omega, by have := g1.lp; dsimp only; omega, by have := g1.lh; dsimp only; omega⟩
  | bare l d =>
    have ht : LvN M n l ∧ d ≤ (rowT M G l).length := by
      have := g.sg
      rw [hs] at this
      exact this
    have hm : mn = .late := by
      unfold LateW at hL
      rw [hs] at hL
      exact hL
    unfold canW at hc
    rw [hs] at hc
    simp only [List.mem_cons, List.not_mem_nil, or_false] at hc
    rcases hc with rfl | rfl
    · exact (g1.mono (Nat.le_refl _) (Nat.le_succ _)).good trivial (by omega) (Nat.le_refl _)
    · unfold stepW
      rw [hs]
      have hl2 := ht.1.mono (Nat.le_succ n)
      exact come_good h (g1.put (t := ⟨S.rd.1, S.rd.2, l, d⟩) ⟨hl2, ht.2⟩) hl2 ht.2 (.inr ⟨by omega, hm⟩)
  | mute =>
    unfold canW at hc
    rw [hs] at hc
    cases List.mem_singleton.mp hc
    exact (g1.mono (Nat.le_refl _) (Nat.le_succ _)).good trivial (by omega) (Nat.le_refl _)
theorem canP_canW {st : Stp} (h : st ∈ canP mn M S) : st ∈ canW M S := by
  unfold canP at h
  cases hs : S.stand with
  | off =>
    rw [hs] at h
    unfold canW
    rw [hs]
    obtain ⟨t, ht, rfl⟩ := List.mem_map.mp h
    exact List.mem_map.mpr ⟨t, (List.mem_filter.mp ht).1, rfl⟩
  | _ =>
    rw [hs] at h
    exact h
end
/-! ### data -/
def eRd (r : Nat × Option Nat) : Dt := .tup [eN r.1, eK r.2]
def eSg : Sg → Dt
  | .off => .tup [.str "off"]
  | .mute => .tup [.str "mute"]
  | .choice l => .tup [.str "choice", eL l]
  | .ready l d => .tup [.str "ready", eL l, eN d]
  | .laid t => .tup [.str "sealed", eNt t]
  | .bare l d => .tup [.str "bare", eL l, eN d]
def eStp : Stp → Dt
  | .boot t => .tup [.str "boot", eNt t]
  | .ask o => .tup [.str "ask", eN o]
  | .turn => .tup [.str "turn"]
  | .put => .tup [.str "seal"]
  | .cut => .tup [.str "cut"]
theorem eRd_inj {a b : Nat × Option Nat} : eRd a = eRd b ↔ a = b := by
  obtain ⟨a1, a2⟩ := a
  obtain ⟨b1, b2⟩ := b
  simp [eRd, eN_inj, eK_inj]
theorem ok_eRd {r : Nat × Option Nat} {n : Nat} (h : 1 ≤ n := by decide) : ok n (eRd r) = true := by
  refine ok_mono h _ (ok_tup fun d hd => ?_)
  simp only [List.mem_cons, List.not_mem_nil, or_false] at hd
  rcases hd with rfl | rfl
  · exact ok_eN
  · exact ok_eK
theorem ok_str {x : Str} {n : Nat} (h : PyData.strOk x = true) : ok n (.str x) = true := by simpa only [ok] using h
theorem ok_eSg {s : Sg} {n : Nat} (h : 3 ≤ n := by decide) : ok n (eSg s) = true := by
  refine ok_mono h _ ?_
  cases s <;> refine ok_tup fun d hd => ?_ <;> simp only [List.mem_cons, List.not_mem_nil, or_false] at hd
  · rw [hd]; exact ok_str (by decide +kernel)
  · rw [hd]; exact ok_str (by decide +kernel)
  · rcases hd with rfl | rfl
    · exact ok_str (by decide +kernel)
    · exact ok_eL
  · rcases hd with rfl | rfl | rfl
    · exact ok_str (by decide +kernel)
    · exact ok_eL
    · exact ok_eN
  · rcases hd with rfl | rfl
    · exact ok_str (by decide +kernel)
    · exact ok_eNt
  · rcases hd with rfl | rfl | rfl
    · exact ok_str (by decide +kernel)
    · exact ok_eL
    · exact ok_eN
theorem ok_eStp {s : Stp} {n : Nat} (h : 3 ≤ n := by decide) : ok n (eStp s) = true := by
  refine ok_mono h _ ?_
  cases s <;> refine ok_tup fun d hd => ?_ <;> simp only [List.mem_cons, List.not_mem_nil, or_false] at hd
  · rcases hd with rfl | rfl
    · exact ok_str (by decide +kernel)
    · exact ok_eNt
  · rcases hd with rfl | rfl
    · exact ok_str (by decide +kernel)
    · exact ok_eN
  · rw [hd]; exact ok_str (by decide +kernel)
  · rw [hd]; exact ok_str (by decide +kernel)
  · rw [hd]; exact ok_str (by decide +kernel)
theorem sne {a b : Str} (h : decide (a = b) = false) : a ≠ b := of_decide_eq_false h
theorem eSg_inj {a b : Sg} : eSg a = eSg b ↔ a = b := by
  constructor
  · intro h
    cases a <;> cases b <;> simp only [eSg, Dt.tup.injEq, List.cons.injEq, Dt.str.injEq, and_true, reduceCtorEq, and_false, eL_inj, eN_inj, eNt_inj, true_and] at h <;> first
      | rfl
      | (exact absurd h (by decide +kernel))
      | (exact absurd h.1 (by decide +kernel))
      | (subst h; rfl)
      | (obtain ⟨rfl, rfl⟩ := h; rfl)
  · intro h
    rw [h]
theorem eStp_inj {a b : Stp} : eStp a = eStp b ↔ a = b := by
  constructor
  · intro h
    cases a <;> cases b <;> simp only [eStp, Dt.tup.injEq, List.cons.injEq, Dt.str.injEq, and_true, reduceCtorEq, and_false, eL_inj, eN_inj, eNt_inj, true_and] at h <;> first
      | rfl
      | (exact absurd h (by decide +kernel))
      | (exact absurd h.1 (by decide +kernel))
      | (subst h; rfl)
  · intro h
    rw [h]
/-- as the law keeps it -/
def lsOf (mn : Mn) (S : WS) : LS := ⟨eRd S.rd, S.shelf.map eNt, eSg S.stand, S.heard.map eTd, S.spoken.map eL, mn.s⟩
theorem lsOf_inj {mn : Mn} {S T : WS} : lsOf mn S = lsOf mn T ↔ S = T := by
  constructor
  · intro h
    obtain ⟨s1, s2, s3, s4, s5⟩ := S
    obtain ⟨t1, t2, t3, t4, t5⟩ := T
    simp only [lsOf, LS.mk.injEq, eRd_inj, eSg_inj, map_inj (f := eNt) fun _ _ => eNt_inj, map_inj (f := eTd) fun _ _ => eTd_inj, map_inj (f := eL) fun _ _ => eL_inj] at h
    obtain ⟨rfl, rfl, rfl, rfl, rfl, _⟩ := h
    rfl
  · intro h
    rw [h]
theorem lsOf_ok {mn : Mn} {M : Mach} {G : Tbl} {n : Nat} {S : WS} (g : GoodW M G n S) : LSok (lsOf mn S) := by
  refine ⟨ok_eRd, fun d hd => ?_, ok_eSg, fun d hd => ?_, fun d hd => ?_, mn.ok⟩
  · obtain ⟨t, _, rfl⟩ := List.mem_map.mp hd
    exact ok_eNt
  · obtain ⟨p, hp, rfl⟩ := List.mem_map.mp hd
    refine ok_mono (by decide : 1 ≤ 30) _ (ok_tup fun d hd => ?_)
    simp only [List.mem_cons, List.not_mem_nil, or_false] at hd
    rcases hd with rfl | rfl
    · exact ok_eN
    · exact ok_str (g.hd p hp)
  · obtain ⟨l, _, rfl⟩ := List.mem_map.mp hd
    exact ok_eL
end K29
set_option Elab.async false
set_option linter.all false
set_option maxRecDepth 100000
set_option maxHeartbeats 4000000
/-! the law's world: what is read and written; promises over it -/
namespace K29
open PySem PySem.Spec PyProof.Rows L2
theorem hu_of {k : Nat} {A : Around} (r : Room k A) : A.units + 1 < cLine := by
  have := r.un
  omega
theorem u80 {k : Nat} {A : Around} (r : Room k A) : A.units + 80 < cLine := by
  have := r.un
  omega
section
variable {K : PySem.W.Frag} {H H' H0 H1 H2 : Hp} {σ : L2.St} {v x y z : V} {a b c d : Dt} {ds es : List Dt} {te td tv ta tb : TE} {D : Ends} {tz : TS} {p q : Addr} {S : LS} {B : List Addr}
/-- such a dict stands at p, its lists none of B's, which are there -/
def LawB (K : PySem.W.Frag) (B : List Addr) (H : Hp) (p : Addr) (S : LS) : Prop :=
  ∃ (a c : V) (l m n : Addr), H p = some (.dK (lawKvs a (.ref l) c (.ref m) (.ref n) (.str S.manner))) ∧ Im K H a S.wheel ∧ LsM K H l S.shelf ∧ Im K H c S.stand ∧ LsM K H m S.heard ∧ LsM K H n S.spoken ∧ (l ∉ B ∧ m ∉ B ∧ n ∉ B ∧ ∀ b ∈ B, H b ≠ none)
theorem LawB.at (h : LawB K B H p S) : LawAt K H p S := by
  obtain ⟨a, c, l, m, n, h0, h1, h2, h3, h4, h5, _⟩ := h
  exact ⟨a, c, l, m, n, h0, h1, h2, h3, h4, h5⟩
theorem liv_to {B : List Addr} (h : ∀ b ∈ B, H b ≠ none) (e : Kp H H') : ∀ b ∈ B, H' b ≠ none := fun b hb z => h b hb (e.live b z)
theorem LawB.to (h : LawB K B H p S) (e : Ext H H') : LawB K B H' p S := by
  obtain ⟨a, c, l, m, n, h0, h1, h2, h3, h4, h5, b1, b2, b3, b4⟩ := h
  exact ⟨a, c, l, m, n, e.get h0, h1.to e.kp, h2.to e, h3.to e.kp, h4.to e, h5.to e, b1, b2, b3, liv_to b4 e.kp⟩
/-- what is at B is written, the dict is not at B -/
theorem LawB.chg {A : List Addr} (h : LawB K B H p S) (e : Chg A H H') (hp : p ∉ A) (hl : ∀ b ∈ A, b ∈ B ∨ ∃ kvs, H b = some (.dK kvs)) : LawB K B H' p S := by
  obtain ⟨a, c, l, m, n, h0, h1, h2, h3, h4, h5, b1, b2, b3, b4⟩ := h
  have ne : ∀ (l : Addr) (ds : List Dt), LsM K H l ds → l ∉ B → l ∉ A := fun l ds hd hb hm => by
    obtain ⟨xs, z, _⟩ := hd
    rcases hl l hm with k | ⟨kvs, k⟩
    · exact hb k
    · rw [z] at k
      cases k
  exact ⟨a, c, l, m, n, e.obj p _ hp h0 (by intro ps z; cases z), h1.to e.kp, h2.chg e (ne _ _ h2 b1), h3.to e.kp, h4.chg e (ne _ _ h4 b2), h5.chg e (ne _ _ h5 b3), b1, b2, b3, liv_to b4 e.kp⟩
/-- other lists to be spared, that are new -/
theorem LawB.ban {B' : List Addr} (h : LawB K B H p S) (e : Ext H H') (hn : ∀ b ∈ B', H b = none) (hl : ∀ b ∈ B', H' b ≠ none) : LawB K B' H' p S := by
  obtain ⟨a, c, l, m, n, h0, h1, h2, h3, h4, h5, _⟩ := h.to e
  obtain ⟨a', c', l', m', n', g0, g1, g2, g3, g4, g5, _⟩ := h
  rw [e.get g0] at h0
  cases h0
  have ne : ∀ (l : Addr) (ds : List Dt), LsM K H l ds → l ∉ B' := fun l ds hd hb => by
    obtain ⟨xs, z, _⟩ := hd
    rw [hn l hb] at z
    cases z
  exact ⟨_, _, _, _, _, e.get g0, h1, h2, h3, h4, h5, ne _ _ g2, ne _ _ g4, ne _ _ g5, hl⟩
/-- where nothing stands nothing that stands is meant -/
theorem LawB.ne (h : LawB K B H p S) (hq : H q = none) : p ≠ q := by
  obtain ⟨a, c, l, m, n, h0, _⟩ := h
  exact ne_of_none h0 hq
theorem ed_wheel (h : EdV td σ H (.ref p)) (hL : LawB K B H p S) : Ed K (tDGet td (tC (.str "wheel"))) σ H S.wheel := fun H1 e Q k => h H1 e _ fun H2 e2 => by
  obtain ⟨a, c, l, m, n, h0, h1, h2, h3, h4, h5, b1, b2, b3, b4⟩ := hL.to (e.trans e2)
  exact ⟨p, a, rfl, DGet.k (k := .inr "wheel") h0, k a H2 e2 h1⟩
theorem ed_stand (h : EdV td σ H (.ref p)) (hL : LawB K B H p S) : Ed K (tDGet td (tC (.str "stand"))) σ H S.stand := fun H1 e Q k => h H1 e _ fun H2 e2 => by
  obtain ⟨a, c, l, m, n, h0, h1, h2, h3, h4, h5, b1, b2, b3, b4⟩ := hL.to (e.trans e2)
  exact ⟨p, c, rfl, DGet.k (k := .inr "stand") h0, k c H2 e2 h3⟩
theorem ed_manner (h : EdV td σ H (.ref p)) (hL : LawB K B H p S) : Ed K (tDGet td (tC (.str "manner"))) σ H (.str S.manner) := fun H1 e Q k => h H1 e _ fun H2 e2 => by
  obtain ⟨a, c, l, m, n, h0, h1, h2, h3, h4, h5, b1, b2, b3, b4⟩ := hL.to (e.trans e2)
  exact ⟨p, _, rfl, DGet.k (k := .inr "manner") h0, k _ H2 e2 (.str _)⟩
/-- a list to be read, not to be written -/
def EdM (K : PySem.W.Frag) (te : TE) (σ : L2.St) (H : Hp) (ds : List Dt) : Prop := ∀ H1, Ext H H1 → ∀ Q : VK, (∀ l H2, Ext H1 H2 → LsM K H2 l ds → Q (.ref l) H2) → te σ H1 Q
theorem EdM.l (h : EdM K te σ H ds) : EdL K te σ H ds := fun H1 e Q q => h H1 e Q fun l H2 e2 hl => q l H2 e2 hl.rd
theorem EdN.em (h : EdN K te σ H ds) : EdM K te σ H ds := fun H1 e Q q => h H1 e Q fun l H2 e2 _ hl => q l H2 e2 hl
theorem em_v {i : Nat} {l : Addr} (hd : LsM K H l ds) (h : σ[i]? = some (some (.ref l)) := by rfl) : EdM K (tVar i) σ H ds := em_var h hd
theorem en_catM (ha : EdM K ta σ H ds) (hb : EdM K tb σ H es) (hz : ds.length + es.length ≤ 1000000) : EdN K (tOp (rAddX K) ta tb) σ H (ds ++ es) := en_cat ha.l hb.l hz ha hb
theorem em_shelf (h : EdV td σ H (.ref p)) (hL : LawB K B H p S) : EdM K (tDGet td (tC (.str "shelf"))) σ H S.shelf := fun H1 e Q k => h H1 e _ fun H2 e2 => by
  obtain ⟨a, c, l, m, n, h0, h1, h2, h3, h4, h5, b1, b2, b3, b4⟩ := hL.to (e.trans e2)
  exact ⟨p, _, rfl, DGet.k (k := .inr "shelf") h0, k l H2 e2 h2⟩
theorem em_heard (h : EdV td σ H (.ref p)) (hL : LawB K B H p S) : EdM K (tDGet td (tC (.str "heard"))) σ H S.heard := fun H1 e Q k => h H1 e _ fun H2 e2 => by
  obtain ⟨a, c, l, m, n, h0, h1, h2, h3, h4, h5, b1, b2, b3, b4⟩ := hL.to (e.trans e2)
  exact ⟨p, _, rfl, DGet.k (k := .inr "heard") h0, k m H2 e2 h4⟩
theorem em_spoken (h : EdV td σ H (.ref p)) (hL : LawB K B H p S) : EdM K (tDGet td (tC (.str "spoken"))) σ H S.spoken := fun H1 e Q k => h H1 e _ fun H2 e2 => by
  obtain ⟨a, c, l, m, n, h0, h1, h2, h3, h4, h5, b1, b2, b3, b4⟩ := hL.to (e.trans e2)
  exact ⟨p, _, rfl, DGet.k (k := .inr "spoken") h0, k n H2 e2 h5⟩
theorem LsM.ned {l : Addr} {kvs : List (Key × V)} (h : LsM K H l ds) (hp : H p = some (.dK kvs)) : l ∉ [p] := fun z => by
  obtain ⟨xs, h1, _⟩ := h
  rw [List.mem_singleton.mp z, hp] at h1
  cases h1
theorem lk6 {a b c d e f : V} : (lawKvs a b c d e f).length < sizeLine := Nat.lt_of_lt_of_le (show 6 < 7 by decide) (by decide)
/-! writing -/
theorem st_putWheel (h : Ed K tv σ H d) (hd : EdV td σ H (.ref p)) (hL : LawB K B H p S) (k : ∀ H1, Chg [p] H H1 → LawB K B H1 p { S with wheel := d } → D.nx σ H1) : sDPut td (tC (.str "wheel")) tv D σ H :=
  h H (Ext.refl H) _ fun v H1 e1 hv => hd H1 e1 _ fun H2 e2 => by
    obtain ⟨a, c, l, m, n, h0, h1, h2, h3, h4, h5, b1, b2, b3, b4⟩ := hL.to (e1.trans e2)
    have cg : Chg [p] H2 (upd H2 p (.dK (lawKvs v (.ref l) c (.ref m) (.ref n) (.str S.manner)))) := Chg.put h0
    exact ⟨p, _, rfl, DPut.k (k := .inr "wheel") h0 lk6, k _ ((e1.trans e2).chg.trans cg) ⟨v, c, l, m, n, upd_same, hv.to (e2.kp.trans cg.kp), h2.chg cg (h2.ned h0), h3.to cg.kp, h4.chg cg (h4.ned h0), h5.chg cg (h5.ned h0), b1, b2, b3, liv_to b4 cg.kp⟩⟩
theorem st_putStand (h : Ed K tv σ H d) (hd : EdV td σ H (.ref p)) (hL : LawB K B H p S) (k : ∀ H1, Chg [p] H H1 → LawB K B H1 p { S with stand := d } → D.nx σ H1) : sDPut td (tC (.str "stand")) tv D σ H :=
  h H (Ext.refl H) _ fun v H1 e1 hv => hd H1 e1 _ fun H2 e2 => by
    obtain ⟨a, c, l, m, n, h0, h1, h2, h3, h4, h5, b1, b2, b3, b4⟩ := hL.to (e1.trans e2)
    have cg : Chg [p] H2 (upd H2 p (.dK (lawKvs a (.ref l) v (.ref m) (.ref n) (.str S.manner)))) := Chg.put h0
    exact ⟨p, _, rfl, DPut.k (k := .inr "stand") h0 lk6, k _ ((e1.trans e2).chg.trans cg) ⟨a, v, l, m, n, upd_same, h1.to cg.kp, h2.chg cg (h2.ned h0), hv.to (e2.kp.trans cg.kp), h4.chg cg (h4.ned h0), h5.chg cg (h5.ned h0), b1, b2, b3, liv_to b4 cg.kp⟩⟩
theorem st_putShelf (h : EdN K tv σ H ds) (hd : EdV td σ H (.ref p)) (hL : LawB K B H p S) (k : ∀ H1, Chg [p] H H1 → LawB K B H1 p { S with shelf := ds } → D.nx σ H1) : sDPut td (tC (.str "shelf")) tv D σ H :=
  h H (Ext.refl H) _ fun v H1 e1 hf hv => hd H1 e1 _ fun H2 e2 => by
    have nb : v ∉ B := fun z => by
      obtain ⟨_, _, _, _, _, _, _, _, _, _, _, _, _, _, b4⟩ := hL
      exact b4 v z hf
    obtain ⟨a, c, l, m, n, h0, h1, h2, h3, h4, h5, b1, b2, b3, b4⟩ := hL.to (e1.trans e2)
    have cg : Chg [p] H2 (upd H2 p (.dK (lawKvs a (.ref v) c (.ref m) (.ref n) (.str S.manner)))) := Chg.put h0
    have hv2 := hv.to e2
    exact ⟨p, _, rfl, DPut.k (k := .inr "shelf") h0 lk6, k _ ((e1.trans e2).chg.trans cg) ⟨a, c, v, m, n, upd_same, h1.to cg.kp, hv2.chg cg (hv2.ned h0), h3.to cg.kp, h4.chg cg (h4.ned h0), h5.chg cg (h5.ned h0), nb, b2, b3, liv_to b4 cg.kp⟩⟩
theorem st_putHeard (h : EdN K tv σ H ds) (hd : EdV td σ H (.ref p)) (hL : LawB K B H p S) (k : ∀ H1, Chg [p] H H1 → LawB K B H1 p { S with heard := ds } → D.nx σ H1) : sDPut td (tC (.str "heard")) tv D σ H :=
  h H (Ext.refl H) _ fun v H1 e1 hf hv => hd H1 e1 _ fun H2 e2 => by
    have nb : v ∉ B := fun z => by
      obtain ⟨_, _, _, _, _, _, _, _, _, _, _, _, _, _, b4⟩ := hL
      exact b4 v z hf
    obtain ⟨a, c, l, m, n, h0, h1, h2, h3, h4, h5, b1, b2, b3, b4⟩ := hL.to (e1.trans e2)
    have cg : Chg [p] H2 (upd H2 p (.dK (lawKvs a (.ref l) c (.ref v) (.ref n) (.str S.manner)))) := Chg.put h0
    have hv2 := hv.to e2
    exact ⟨p, _, rfl, DPut.k (k := .inr "heard") h0 lk6, k _ ((e1.trans e2).chg.trans cg) ⟨a, c, l, v, n, upd_same, h1.to cg.kp, h2.chg cg (h2.ned h0), h3.to cg.kp, hv2.chg cg (hv2.ned h0), h5.chg cg (h5.ned h0), b1, nb, b3, liv_to b4 cg.kp⟩⟩
theorem st_putSpoken (h : EdN K tv σ H ds) (hd : EdV td σ H (.ref p)) (hL : LawB K B H p S) (k : ∀ H1, Chg [p] H H1 → LawB K B H1 p { S with spoken := ds } → D.nx σ H1) : sDPut td (tC (.str "spoken")) tv D σ H :=
  h H (Ext.refl H) _ fun v H1 e1 hf hv => hd H1 e1 _ fun H2 e2 => by
    have nb : v ∉ B := fun z => by
      obtain ⟨_, _, _, _, _, _, _, _, _, _, _, _, _, _, b4⟩ := hL
      exact b4 v z hf
    obtain ⟨a, c, l, m, n, h0, h1, h2, h3, h4, h5, b1, b2, b3, b4⟩ := hL.to (e1.trans e2)
    have cg : Chg [p] H2 (upd H2 p (.dK (lawKvs a (.ref l) c (.ref m) (.ref v) (.str S.manner)))) := Chg.put h0
    have hv2 := hv.to e2
    exact ⟨p, _, rfl, DPut.k (k := .inr "spoken") h0 lk6, k _ ((e1.trans e2).chg.trans cg) ⟨a, c, l, m, v, upd_same, h1.to cg.kp, h2.chg cg (h2.ned h0), h3.to cg.kp, h4.chg cg (h4.ned h0), hv2.chg cg (hv2.ned h0), b1, b2, nb, liv_to b4 cg.kp⟩⟩
theorem q_putWheel (h : Ed K tv σ H d) (hd : EdV td σ H (.ref p)) (hL : LawB K B H p S) (k : ∀ H1, Chg [p] H H1 → LawB K B H1 p { S with wheel := d } → tz D σ H1) : tSeq (sDPut td (tC (.str "wheel")) tv) tz D σ H := st_putWheel (D := { D with nx := tz D }) h hd hL k
theorem q_putStand (h : Ed K tv σ H d) (hd : EdV td σ H (.ref p)) (hL : LawB K B H p S) (k : ∀ H1, Chg [p] H H1 → LawB K B H1 p { S with stand := d } → tz D σ H1) : tSeq (sDPut td (tC (.str "stand")) tv) tz D σ H := st_putStand (D := { D with nx := tz D }) h hd hL k
theorem q_putShelf (h : EdN K tv σ H ds) (hd : EdV td σ H (.ref p)) (hL : LawB K B H p S) (k : ∀ H1, Chg [p] H H1 → LawB K B H1 p { S with shelf := ds } → tz D σ H1) : tSeq (sDPut td (tC (.str "shelf")) tv) tz D σ H := st_putShelf (D := { D with nx := tz D }) h hd hL k
theorem q_putHeard (h : EdN K tv σ H ds) (hd : EdV td σ H (.ref p)) (hL : LawB K B H p S) (k : ∀ H1, Chg [p] H H1 → LawB K B H1 p { S with heard := ds } → tz D σ H1) : tSeq (sDPut td (tC (.str "heard")) tv) tz D σ H := st_putHeard (D := { D with nx := tz D }) h hd hL k
theorem q_putSpoken (h : EdN K tv σ H ds) (hd : EdV td σ H (.ref p)) (hL : LawB K B H p S) (k : ∀ H1, Chg [p] H H1 → LawB K B H1 p { S with spoken := ds } → tz D σ H1) : tSeq (sDPut td (tC (.str "spoken")) tv) tz D σ H := st_putSpoken (D := { D with nx := tz D }) h hd hL k
/-! ### promises -/
/-- the world at the first argument is changed -/
def SpLW (K : PySem.W.Frag) (TL : List Addr) (R : List Dt → Mn → WS → WS → Prop) : Sp := fun vs H Q _ => ∃ (B : List Addr) (p : Addr) (rest : List V) (ds : List Dt) (mn : Mn) (S S' : WS), vs = .ref p :: rest ∧ ImAll K H rest ds ∧ Tabs TL H ∧ LawB K B H p (lsOf mn S) ∧ R ds mn S S' ∧ ∀ H', Chg [p] H H' → LawB K B H' p (lsOf mn S') → Q .non H'
/-- .. is read: a datum -/
def SpLF (K : PySem.W.Frag) (TL : List Addr) (R : List Dt → Mn → WS → Dt → Prop) : Sp := fun vs H Q _ => ∃ (B : List Addr) (p : Addr) (rest : List V) (ds : List Dt) (mn : Mn) (S : WS) (d : Dt), vs = .ref p :: rest ∧ ImAll K H rest ds ∧ Tabs TL H ∧ LawB K B H p (lsOf mn S) ∧ R ds mn S d ∧ ∀ v H', Ext H H' → Im K H' v d → Q v H'
/-- .. a new list -/
def SpLG (K : PySem.W.Frag) (TL : List Addr) (R : List Dt → Mn → WS → List Dt → Prop) : Sp := fun vs H Q _ => ∃ (B : List Addr) (p : Addr) (rest : List V) (ds : List Dt) (mn : Mn) (S : WS) (es : List Dt), vs = .ref p :: rest ∧ ImAll K H rest ds ∧ Tabs TL H ∧ LawB K B H p (lsOf mn S) ∧ R ds mn S es ∧ ∀ l H', Ext H H' → H l = none → LsM K H' l es → Q (.ref l) H'
/-- .. whether what comes is None -/
def SpLN (K : PySem.W.Frag) (TL : List Addr) (R : List Dt → Mn → WS → Prop → Prop) : Sp := fun vs H Q _ => ∃ (B : List Addr) (p : Addr) (rest : List V) (ds : List Dt) (mn : Mn) (S : WS) (φ : Prop), vs = .ref p :: rest ∧ ImAll K H rest ds ∧ Tabs TL H ∧ LawB K B H p (lsOf mn S) ∧ R ds mn S φ ∧ ∀ v H', Ext H H' → (v = .non ↔ φ) → Q v H'
variable {TL : List Addr} {E : XK} {tr : TA} {mn : Mn} {W W' : WS}
theorem ed_callLF {R : List Dt → Mn → WS → Dt → Prop} (h0 : EdV ta σ H (.ref p)) (hL : LawB K B H p (lsOf mn W)) (h : EdA K tr σ H ds) (ht : Tabs TL H0) (hk : Kp H0 H) (hr : R ds mn W d) : Ed K (tCall (SpLF K TL R) [] E (tCons ta tr)) σ H d := fun H1 e Q q =>
  h0 H1 e _ fun H2 e2 => h H2 (e.trans e2) _ fun vs H3 e3 hs => ⟨B, p, vs, ds, mn, W, d, by rw [List.append_nil], hs, ht.to (((hk.trans e.kp).trans e2.kp).trans e3.kp), hL.to ((e.trans e2).trans e3), hr, fun v H4 e4 hv => q v H4 (e2.trans (e3.trans e4)) hv⟩
theorem en_callLG {R : List Dt → Mn → WS → List Dt → Prop} (h0 : EdV ta σ H (.ref p)) (hL : LawB K B H p (lsOf mn W)) (h : EdA K tr σ H ds) (ht : Tabs TL H0) (hk : Kp H0 H) (hr : R ds mn W es) : EdN K (tCall (SpLG K TL R) [] E (tCons ta tr)) σ H es := fun H1 e Q q =>
  h0 H1 e _ fun H2 e2 => h H2 (e.trans e2) _ fun vs H3 e3 hs => ⟨B, p, vs, ds, mn, W, es, by rw [List.append_nil], hs, ht.to (((hk.trans e.kp).trans e2.kp).trans e3.kp), hL.to ((e.trans e2).trans e3), hr, fun l H4 e4 hn hv => q l H4 (e2.trans (e3.trans e4)) (e2.free (e3.free hn)) hv⟩
/-- what comes is None, or isn't -/
theorem ed_callLN {R : List Dt → Mn → WS → Prop → Prop} {φ : Prop} {k : Bool} (h0 : EdV ta σ H (.ref p)) (hL : LawB K B H p (lsOf mn W)) (h : EdA K tr σ H ds) (ht : Tabs TL H0) (hk : Kp H0 H) (hr : R ds mn W φ) (hkk : k = true ↔ ¬ φ) : Ed K (tNotN (tCall (SpLN K TL R) [] E (tCons ta tr))) σ H (.bl k) := fun H1 e Q q =>
  h0 H1 e _ fun H2 e2 => h H2 (e.trans e2) _ fun vs H3 e3 hs => ⟨B, p, vs, ds, mn, W, φ, by rw [List.append_nil], hs, ht.to (((hk.trans e.kp).trans e2.kp).trans e3.kp), hL.to ((e.trans e2).trans e3), hr, fun v H4 e4 hv => by
    have ek : (!decide (v = .non)) = k := by
      rw [Bool.eq_iff_iff, Bool.not_eq_true', decide_eq_false_iff_not, hkk, hv]
    show Q (.bl (!decide (v = .non))) H4
    rw [ek]
    exact q _ H4 (e2.trans (e3.trans e4)) (.bl k)⟩
theorem st_callLW {R : List Dt → Mn → WS → WS → Prop} (h0 : EdV ta σ H (.ref p)) (hL : LawB K B H p (lsOf mn W)) (h : EdA K tr σ H ds) (ht : Tabs TL H0) (hk : Kp H0 H) (hr : R ds mn W W') (k : ∀ H1, Chg [p] H H1 → LawB K B H1 p (lsOf mn W') → D.nx σ H1) : tDrop (tCall (SpLW K TL R) [] E (tCons ta tr)) D σ H :=
  h0 H (Ext.refl H) _ fun H2 e2 => h H2 e2 _ fun vs H3 e3 hs => ⟨B, p, vs, ds, mn, W, W', by rw [List.append_nil], hs, ht.to ((hk.trans e2.kp).trans e3.kp), hL.to (e2.trans e3), hr, fun H4 e4 hv => k H4 ((e2.trans e3).chg.trans e4) hv⟩
theorem q_callLW {TL : List Addr} {E : XK} {tr : TA} {mn : Mn} {W W' : WS} {R : List Dt → Mn → WS → WS → Prop} (h0 : EdV ta σ H (.ref p)) (hL : LawB K B H p (lsOf mn W)) (h : EdA K tr σ H ds) (ht : Tabs TL H0) (hk : Kp H0 H) (hr : R ds mn W W') (k : ∀ H1, Chg [p] H H1 → LawB K B H1 p (lsOf mn W') → tz D σ H1) : tSeq (tDrop (tCall (SpLW K TL R) [] E (tCons ta tr))) tz D σ H := st_callLW (D := { D with nx := tz D }) h0 hL h ht hk hr k
end
end K29
set_option Elab.async false
set_option linter.all false
set_option maxRecDepth 100000
set_option maxHeartbeats 4000000
/-! the law's world: the walks -/
namespace K29
open PySem PySem.Spec PyProof.Rows L2
local macro_rules | `(tactic| walk_at "kp") => `(tactic| first | exact Kp.refl _ | assumption | exact Chg.kp (by assumption) | (refine Kp.trans ?_ (Chg.kp (by assumption)); walk_at "kp"))
local macro_rules | `(tactic| walk_at "ext") => `(tactic| first | exact Ext.refl _ | assumption | (refine Ext.trans ?_ (by assumption); walk_at "ext"))

/-- small enough -/
structure Sm (S : WS) : Prop where
  sh : S.shelf.length ≤ 90
  hd : S.heard.length ≤ 90
  sp : S.spoken.length ≤ 90
theorem mem_eL {l : Life} {ls : List Life} : eL l ∈ ls.map eL ↔ l ∈ ls := by
  rw [List.mem_map]
  constructor
  · rintro ⟨x, hx, e⟩
    rw [← eL_inj.mp e]
    exact hx
  · exact fun h => ⟨l, h, rfl⟩
theorem mem_eNt {t : Nt} {ts : List Nt} : eNt t ∈ ts.map eNt ↔ t ∈ ts := by
  rw [List.mem_map]
  constructor
  · rintro ⟨x, hx, e⟩
    rw [← eNt_inj.mp e]
    exact hx
  · exact fun h => ⟨t, h, rfl⟩
theorem all_ok_eL {ls : List Life} : ∀ e ∈ ls.map eL, ok 1 e = true := fun e he => by
  obtain ⟨l, _, rfl⟩ := List.mem_map.mp he
  exact ok_eL
theorem all_ok_eNt {ls : List Nt} : ∀ e ∈ ls.map eNt, ok 2 e = true := fun e he => by
  obtain ⟨l, _, rfl⟩ := List.mem_map.mp he
  exact ok_eNt
theorem say_stand {M : Mach} {l : Life} {x : Nat} {S : WS} {s : Sg} : sayW M l x { S with stand := s } = { sayW M l x S with stand := s } := by
  unfold sayW
  cases wordT M l <;> rfl
section
variable {K : PySem.W.Frag} {H H' H0 H1 H2 : Hp} {σ : L2.St} {a b c d : Dt} {te td tv ta tb : TE}
theorem ed_isMn {mn : Mn} (m : Mn) {x : Str} (h : Ed K ta σ H (.str mn.s)) (e : m.s = x := by rfl) : Ed K (tOp (rEqD K) ta (tC (.str x))) σ H (.bl (decide (mn = m))) := by
  subst e
  exact ed_op h ed_str (rd_eq (n := 0) (m := 0) (ok_str mn.ok) (ok_str m.ok) (by rw [decide_eq_true_iff, Dt.str.injEq, Mn.inj]))
theorem ed_neMn {mn : Mn} (m : Mn) {x : Str} (h : Ed K ta σ H (.str mn.s)) (e : m.s = x := by rfl) : Ed K (tOp (rNeD K) ta (tC (.str x))) σ H (.bl (decide (mn ≠ m))) := by
  subst e
  exact ed_op h ed_str (rd_ne (n := 0) (m := 0) (ok_str mn.ok) (ok_str m.ok) (by rw [decide_eq_true_iff, Ne, Ne, Dt.str.injEq, Mn.inj]))
/-- a life is not empty -/
theorem ed_neNil {l : Life} (h : Ed K ta σ H (eL l)) : Ed K (tOp (rNeD K) ta (tTup tNil)) σ H (.bl (decide (l ≠ []))) := ed_op h (ed_tup ea_nil (by decide)) (rd_ne (n := 1) (m := 1) ok_eL (by rfl) (by rw [decide_eq_true_iff]; constructor <;> intro q z <;> exact q (by cases l <;> simp_all [eL])))
theorem ed_eqNil {l : Life} (h : Ed K ta σ H (eL l)) : Ed K (tOp (rEqD K) ta (tTup tNil)) σ H (.bl (decide (l = []))) := ed_op h (ed_tup ea_nil (by decide)) (rd_eq (n := 1) (m := 1) ok_eL (by rfl) (by rw [decide_eq_true_iff]; cases l <;> simp [eL]))
end
section
variable {P : Program} {w : World} {K : PySem.W.Frag} {mg : Str → Option Value} {base : Heap}
def R_law_bad_fits (ds : List Dt) (mn : Mn) (S : WS) (d : Dt) : Prop := ∃ t : Nt, ds = [eNt t] ∧ d = .bl (fitsW mn S.rd t)
theorem sc_law_bad_fits : FnScope ["_law_world_here", "_law_note"] ["_law_world_here", "_law_note"] (defScope s_law_bad_fits) := ⟨rfl, rfl, rfl, by decide +kernel, rfl, by decide +kernel, by decide +kernel⟩
theorem ok_law_bad_fits (T : Txt w K mg base) : Ok P w K mg base 1 ("_law_bad_fits", none) ["_law_world_here", "_law_note"] (SpLF K (TL K) R_law_bad_fits) := by
  refine ok_of (k := 0) T.f_law_bad_fits sc_law_bad_fits (fun vs H Q E h => ?_) (fun _ _ _ _ _ _ us hl => match us, hl with | [_, _], _ => rfl) (fun cdv A outer s H vs Q E hr h => ?_)
  · obtain ⟨B, p, rest, ds, mn, S, d, rfl, hi, _, _, ⟨t, rfl, _⟩, _⟩ := h
    rw [List.length_cons, hi.length]
    rfl
  · obtain ⟨B, p, rest, ds, mn, S, d, rfl, hi, hT, hL, ⟨t, rfl, rfl⟩, hQ⟩ := h
    cases hi with | cons h1 hi =>
    cases hi
    refine ⟨_, (pss_cons (ps_if (pt_cmpR (r := rEqD K) (op_eqD hr.units) (pe_dget (hu_of hr) (pv 0) pe_str (fun _ _ => rfl)) pe_str (nomark _)) (pss_one (ps_ret pe_bl)) pss_nil)
      (pss_one (ps_ret (pe_and (pe_cmpR (r := rEqD K) (op_eqD hr.units) (pe_ix (r := rIx K) ix_seq (pv 1) pe_int (fun _ _ => rfl)) (pe_ix (r := rIx K) ix_seq (pe_dget (hu_of hr) (pv 0) pe_str (fun _ _ => rfl)) pe_int (fun _ _ => rfl)) (nomark _)) (pe_one (pe_or (pe_cmpR (r := rEqD K) (op_eqD hr.units) (pe_dget (hu_of hr) (pv 0) pe_str (fun _ _ => rfl)) pe_str (nomark _)) (pe_one (pe_cmpR (r := rEqD K) (op_eqD hr.units) (pe_ix (r := rIx K) ix_seq (pv 1) pe_int (fun _ _ => rfl)) (pe_ix (r := rIx K) ix_seq (pe_dget (hu_of hr) (pv 0) pe_str (fun _ _ => rfl)) pe_int (fun _ _ => rfl)) (nomark _))))))))), ?_⟩
    try dsimp only [cxOf, Cx.nox, Cx.wish]
    obtain ⟨n, k, l, d⟩ := t
    refine q_if (k := decide (mn = .opened)) (et_test (ed_isMn .opened (ed_manner ev_v hL))) (fun q H1 e1 => ?_) fun q H1 e1 => ?_
    · have q2 := of_decide_eq_true q
      subst q2
      exact st_ret (K := K) ed_bl fun v H2 e2 hv => hQ v H2 (e1.trans e2) hv
    · have hL1 := hL.to e1
      refine st_ret (K := K) (Ed.is (ed_andV (ed_op (ed_op (ed_v h1) ed_int (rd_ix (by rfl))) (ed_op (ed_wheel ev_v hL1) ed_int (rd_ix (by rfl))) rd_eqI) fun _ => ed_orV (ed_isMn .counted (ed_manner ev_v hL1)) fun _ =>
        ed_op (ed_op (ed_v h1) ed_int (rd_ix (by rfl))) (ed_op (ed_wheel ev_v hL1) ed_int (rd_ix (by rfl))) (rd_eq (k := decide (k = S.rd.2)) (n := 0) (m := 0) ok_eK ok_eK (by rw [decide_eq_true_iff]; exact eK_inj.symm))) ?_) fun v H2 e2 hv => hQ v H2 (e1.trans e2) hv
      have q2 := of_decide_eq_false q
      have e0 : decide ((n : Int) = (S.rd.1 : Int)) = decide (n = S.rd.1) := decide_eq_decide.mpr (by omega)
      rw [e0]
      cases mn <;> first | exact absurd rfl q2 | (simp [fitsW])
def R_law_bad_say (ds : List Dt) (mn : Mn) (S S' : WS) : Prop := ∃ (M : Mach) (G : Tbl) (m n : Nat) (l : Life) (x : Nat), ds = [eM M, eL l, eN x] ∧ House M G m ∧ LvN M n l ∧ n ≤ 90 ∧ Sm S ∧ S' = sayW M l x S
theorem sc_law_bad_say : FnScope ["_law_world_here", "_law_machine_here", "_law_life", "_law_number", "_law_word"] ["_law_world_here", "_law_machine_here", "_law_life", "_law_number"] (defScope s_law_bad_say) := ⟨rfl, rfl, rfl, by decide +kernel, rfl, by decide +kernel, by decide +kernel⟩
theorem ok_law_bad_say (T : Txt w K mg base) : Ok P w K mg base 2 ("_law_bad_say", none) ["_law_world_here", "_law_machine_here", "_law_life", "_law_number"] (SpLW K (TL K) R_law_bad_say) := by
  obtain ⟨⟨fd_law_state_behind, F_law_state_behind, b_law_state_behind⟩, k_law_state_behind⟩ := ok_law_state_behind (P := P) T
  refine ok_of (k := 1) T.f_law_bad_say sc_law_bad_say (fun vs H Q E h => ?_) (fun _ _ _ _ _ _ us hl => match us, hl with | [_, _, _, _], _ => rfl) (fun cdv A outer s H vs Q E hr h => ?_)
  · obtain ⟨B, p, rest, ds, mn, S, S', rfl, hi, _, _, ⟨M, G, m, n, l, x, rfl, _⟩, _⟩ := h
    rw [List.length_cons, hi.length]
    rfl
  · obtain ⟨B, p, rest, ds, mn, S, S', rfl, hi, hT, hL, ⟨M, G, m, n, l, x, rfl, hH, hl, hn, hs, rfl⟩, hQ⟩ := h
    cases hi with | cons h1 hi => cases hi with | cons h2 hi => cases hi with | cons h3 hi =>
    cases hi
    rename_i vM vl vx
    refine ⟨_, (pss_cons (ps_set (i := 4) sc_law_bad_say.nd rfl (Or.inl rfl) (pe_ifExp (pt_cmpR (r := rNeD K) (op_neD hr.units) (pv 2) (pe_tup pa_nil) (nomark _)) (pe_ix (r := rIx K) ix_seq (pe_ix (r := rIx K) ix_seq (pe_ix (r := rIx K) ix_seq (pv 1) (pe_call F_law_state_behind (hr.mono (by decide)) (by rfl) T.g_law_state_behind k_law_state_behind b_law_state_behind .nil pass0 (pa_cons (pv 1) (pa_cons (pe_slice (r := rSlX K) sl_X (pv 2) po_none (po_some (pe_un un_neg pe_int))) pa_nil))) (fun _ _ => rfl)) (pe_ix (r := rIx K) ix_seq (pv 2) (pe_un un_neg pe_int) (fun _ _ => rfl)) (fun _ _ => rfl)) pe_int (fun _ _ => rfl)) pe_non))
      (pss_one (ps_if (pt_cmp (pc_notN (pv 4))) (pss_cons (ps_dput (hu_of hr) (pv 0) pe_str (pe_op (r := rAddX K) op_addX (pe_dget (hu_of hr) (pv 0) pe_str (fun _ _ => rfl)) (pe_lst (pa_cons (pe_tup (pa_cons (pv 3) (pa_cons (pv 4) pa_nil))) pa_nil))) rfl)
        (pss_one (ps_dput (hu_of hr) (pv 0) pe_str (pe_op (r := rAddX K) op_addX (pe_dget (hu_of hr) (pv 0) pe_str (fun _ _ => rfl)) (pe_ifExp (pt_cmpR (r := rInX K true) (op_ninX (u65 hr)) (pv 2) (pe_dget (hu_of hr) (pv 0) pe_str (fun _ _ => rfl)) (by with_unfolding_all rfl)) (pe_lst (pa_cons (pv 2) pa_nil)) (pe_lst pa_nil))) rfl))) pss_nil))), ?_⟩
    try dsimp only [cxOf, Cx.nox, Cx.wish]
    refine rd_start [some (.ref p), some vM, some vl, some vx, none] ?_
    refine q_set (K := K) (d := eW (wordT M l)) (ed_if (et_test (ed_neNil (ed_v h2))) (fun q => ?_) fun q => ?_) fun y H1 e1 hy => ?_
    · have q2 := of_decide_eq_true q
      rcases nil_or_snoc l with rfl | ⟨l', o, rfl⟩
      · exact absurd rfl q2
      · obtain ⟨⟨s, hsg⟩, hz⟩ := hl
        obtain ⟨u, pp, rs, r, h4, h5, _, _, _, _, _, _, _, _, _, _, ew⟩ := last_of hH hsg
        obtain ⟨st, hst, hop⟩ := Option.bind_eq_some_iff.mp h5
        rw [ew]
        exact ed_op (ed_op (ed_op (ed_v h1) (ed_call (ea_cons (ed_v h1) (ea_cons (ed_initL (ed_v h2)) ea_nil)) hT (by walk_at "kp") ⟨M, l', u, rfl, h4, rfl⟩) (rd_ix (at_map hst))) (ed_lastL (ed_v h2)) (rd_ix (at_map hop))) ed_int (rd_ix (by rfl))
    · have q2 := of_decide_eq_false q
      have e : l = [] := Classical.not_not.mp q2
      subst e
      exact ed_non
    · have hL1 := hL.to e1
      cases ew : wordT M l with
      | none =>
        rw [ew] at hy
        refine st_if0 (k := false) (et_B (ed_notN (ed_v hy) (by simp [eW]))) rfl fun H2 e2 => ?_
        have hS : sayW M l x S = S := by unfold sayW; rw [ew]
        rw [hS] at hQ
        exact hQ H2 (e1.trans e2).chg (hL1.to e2)
      | some wd =>
        rw [ew] at hy
        refine st_if1 (k := true) (et_B (ed_notN (ed_v hy) (by simp [eW]))) rfl fun H2 e2 => ?_
        have hh := hs.hd
        have hp := hs.sp
        refine q_putHeard (en_catM (em_heard ev_v (hL1.to e2)) (en_lst (ea_cons (ed_tup (ea_cons (ed_v h3) (ea_cons (ed_v hy) ea_nil)) (by simp)) ea_nil) (by simp)).em (by show (S.heard.map eTd).length + _ ≤ _; rw [List.length_map]; simp; omega)) ev_v (hL1.to e2) fun H3 c3 hL3 => ?_
        have hS : ∀ hd, hd = S.heard.map eTd ++ [.tup [eN x, eW (some wd)]] → LS.mk (eRd S.rd) (S.shelf.map eNt) (eSg S.stand) hd ((if l ∈ S.spoken then S.spoken else S.spoken ++ [l]).map eL) mn.s = lsOf mn (sayW M l x S) := by
          rintro _ rfl
          unfold sayW
          rw [ew]
          simp [lsOf, eTd, eW]
        by_cases hm : l ∈ S.spoken
        · refine st_putSpoken (ds := (if l ∈ S.spoken then S.spoken else S.spoken ++ [l]).map eL) ?_ ev_v hL3 fun H4 c4 hL4 => hQ H4 ((e1.trans e2).chg.trans (c3.trans c4)) ?_
          · have e : (if l ∈ S.spoken then S.spoken else S.spoken ++ [l]).map eL = S.spoken.map eL ++ [] := by rw [if_pos hm, List.append_nil]
            rw [e]
            exact en_catM (em_spoken ev_v hL3) (el_if (k := false) (et_test (ed_ninL (n := 1) (m := 1) (ed_v h2) (em_spoken ev_v hL3).l ok_eL all_ok_eL (show false = true ↔ eL l ∉ S.spoken.map eL by simp [mem_eL, hm]))) (fun q => by cases q) fun _ => en_lst ea_nil (by simp)).em (by show (S.spoken.map eL).length + _ ≤ _; rw [List.length_map]; simp; omega)
          · rw [← hS _ rfl]
            exact hL4
        · refine st_putSpoken (ds := (if l ∈ S.spoken then S.spoken else S.spoken ++ [l]).map eL) ?_ ev_v hL3 fun H4 c4 hL4 => hQ H4 ((e1.trans e2).chg.trans (c3.trans c4)) ?_
          · have e : (if l ∈ S.spoken then S.spoken else S.spoken ++ [l]).map eL = S.spoken.map eL ++ [eL l] := by rw [if_neg hm, List.map_append]; rfl
            rw [e]
            exact en_catM (em_spoken ev_v hL3) (el_if (k := true) (et_test (ed_ninL (n := 1) (m := 1) (ed_v h2) (em_spoken ev_v hL3).l ok_eL all_ok_eL (show true = true ↔ eL l ∉ S.spoken.map eL by simp [mem_eL, hm]))) (fun _ => en_lst (ea_cons (ed_v h2) ea_nil) (by simp)) fun q => by cases q).em (by show (S.spoken.map eL).length + _ ≤ _; rw [List.length_map]; simp; omega)
          · rw [← hS _ rfl]
            exact hL4
end
end K29
set_option Elab.async false
set_option linter.all false
set_option maxRecDepth 100000
set_option maxHeartbeats 4000000
/-! the law's world goes on: the walks -/
namespace K29
open PySem PySem.Spec PyProof.Rows L2
local macro_rules | `(tactic| walk_at "kp") => `(tactic| first | exact Kp.refl _ | assumption | exact Chg.kp (by assumption) | (refine Kp.trans ?_ (Chg.kp (by assumption)); walk_at "kp"))
local macro_rules | `(tactic| walk_at "ext") => `(tactic| first | exact Ext.refl _ | assumption | (refine Ext.trans ?_ (by assumption); walk_at "ext"))

theorem Sm.say {M : Mach} {l : Life} {x : Nat} {S : WS} (h : Sm S) (k : S.spoken.length ≤ 80) (k2 : S.heard.length ≤ 80) : Sm (sayW M l x S) := by
  unfold sayW
  cases wordT M l with
  | none => exact h
  | some w =>
    refine ⟨h.sh, ?_, ?_⟩
    · simp
      omega
    · dsimp only
      split
      · omega
      · simp
        omega
theorem getD_at {r : List Nat} {d : Nat} (h : d < r.length) : r[d]? = some (r.getD d 0) := by
  rw [List.getD_eq_getElem?_getD, List.getElem?_eq_getElem h]
  rfl
section
variable {K : PySem.W.Frag} {H H' H0 H1 H2 : Hp} {σ : L2.St} {te td tv ta tb tM tG tl : TE}
/-- the row of a life's last option, as the law looks it up -/
theorem ed_lineL {M : Mach} {G : Tbl} {m n : Nat} {l : Life} {E : XK} (hH : House M G m) (hl : LvN M n l) (hne : l ≠ []) (h1 : Ed K tM σ H (eM M)) (h2 : Ed K tG σ H (eT G)) (h3 : Ed K tl σ H (eL l)) (hT : Tabs (TL K) H0) (hk : Kp H0 H) :
    Ed K (tOp (rIx K) (tOp (rIx K) tG (tCall (SpF K (TL K) R_law_state_behind) [] E (tCons tM (tCons (tSl (rSlX K) tl tNoPart (tPart (tUn (rU fun i => .int (-i)) (tC (.int 1))))) tNil)))) (tOp (rIx K) tl (tUn (rU fun i => .int (-i)) (tC (.int 1))))) σ H (eL (rowT M G l)) := by
  rcases nil_or_snoc l with rfl | ⟨l', o, rfl⟩
  · exact absurd rfl hne
  · obtain ⟨⟨s, hs⟩, _⟩ := hl
    obtain ⟨u, p, rs, r, h4, h5, _, h7, h8, _, _, _, _, _, _, er, _⟩ := last_of hH hs
    rw [er]
    exact ed_op (ed_op h2 (ed_call (ea_cons h1 (ea_cons (ed_initL h3) ea_nil)) hT hk ⟨M, l', u, rfl, h4, rfl⟩) (rd_ix (at_map h7))) (ed_lastL h3) (rd_ix (at_map h8))
theorem ed_eqC {x y : Str} {k : Bool} (h : Ed K ta σ H (.str x)) (hx : PyData.strOk x = true) (hy : PyData.strOk y = true) (e : decide (x = y) = k) : Ed K (tOp (rEqD K) ta (tC (.str y))) σ H (.bl k) := e ▸ ed_op h ed_str (rd_eqS hx hy)
end
section
variable {P : Program} {w : World} {K : PySem.W.Frag} {mg : Str → Option Value} {base : Heap}
def R_law_bad_come (ds : List Dt) (mn : Mn) (S S' : WS) : Prop := ∃ (M : Mach) (G : Tbl) (m n : Nat) (l : Life) (d : Nat), ds = [eM M, eT G, eL l, eN d] ∧ House M G m ∧ LvN M n l ∧ n ≤ 80 ∧ d ≤ (rowT M G l).length ∧ Sm S ∧ S.shelf.length ≤ 85 ∧ S' = comeW mn M G l d S
theorem sc_law_bad_come : FnScope ["_law_world_here", "_law_machine_here", "_law_table_here", "_law_life", "_law_done", "_law_line", "_law_note"] ["_law_world_here", "_law_machine_here", "_law_table_here", "_law_life", "_law_done"] (defScope s_law_bad_come) := ⟨rfl, rfl, rfl, by decide +kernel, rfl, by decide +kernel, by decide +kernel⟩
theorem ok_law_bad_come (T : Txt w K mg base) : Ok P w K mg base 4 ("_law_bad_come", none) ["_law_world_here", "_law_machine_here", "_law_table_here", "_law_life", "_law_done"] (SpLW K (TL K) R_law_bad_come) := by
  obtain ⟨⟨fd_law_state_behind, F_law_state_behind, b_law_state_behind⟩, k_law_state_behind⟩ := ok_law_state_behind (P := P) T
  obtain ⟨⟨fd_law_bad_say, F_law_bad_say, b_law_bad_say⟩, k_law_bad_say⟩ := ok_law_bad_say (P := P) T
  refine ok_of (k := 3) T.f_law_bad_come sc_law_bad_come (fun vs H Q E h => ?_) (fun _ _ _ _ _ _ us hl => match us, hl with | [_, _, _, _, _], _ => rfl) (fun cdv A outer s H vs Q E hr h => ?_)
  · obtain ⟨B, p, rest, ds, mn, S, S', rfl, hi, _, _, ⟨M, G, m, n, l, x, rfl, _⟩, _⟩ := h
    rw [List.length_cons, hi.length]
    rfl
  · obtain ⟨B, p, rest, ds, mn, S, S', rfl, hi, hT, hL, ⟨M, G, m, n, l, d, rfl, hH, hl, hn, hd, hs, hsz, rfl⟩, hQ⟩ := h
    cases hi with | cons h1 hi => cases hi with | cons h2 hi => cases hi with | cons h3 hi => cases hi with | cons h4 hi =>
    cases hi
    rename_i vM vG vl vd
    refine ⟨_, (pss_cons (ps_set (i := 5) sc_law_bad_come.nd rfl (Or.inl rfl) (pe_ifExp (pt_cmpR (r := rNeD K) (op_neD hr.units) (pv 3) (pe_tup pa_nil) (nomark _)) (pe_ix (r := rIx K) ix_seq (pe_ix (r := rIx K) ix_seq (pv 2) (pe_call F_law_state_behind (hr.mono (by decide)) (by rfl) T.g_law_state_behind k_law_state_behind b_law_state_behind .nil pass0 (pa_cons (pv 1) (pa_cons (pe_slice (r := rSlX K) sl_X (pv 3) po_none (po_some (pe_un un_neg pe_int))) pa_nil))) (fun _ _ => rfl)) (pe_ix (r := rIx K) ix_seq (pv 3) (pe_un un_neg pe_int) (fun _ _ => rfl)) (fun _ _ => rfl)) (pe_tup pa_nil)))
      (pss_one (ps_if (pt_cmpR (r := rEqD K) (op_eqD hr.units) (pv 4) (pe_callB (id := "len") (r := rLenX K) call_lenX (by rfl) T.g_len (by decide +kernel) (pa_cons (pv 5) pa_nil)) (nomark _)) (pss_cons (ps_dput (hu_of hr) (pv 0) pe_str (pe_tup (pa_cons pe_str (pa_cons (pv 3) pa_nil))) rfl)
        (pss_one (ps_if (pt_cmpR (r := rNeD K) (op_neD hr.units) (pe_dget (hu_of hr) (pv 0) pe_str (fun _ _ => rfl)) pe_str (nomark _)) (pss_one (ps_expr (pe_call F_law_bad_say (hr.mono (by decide)) (by rfl) T.g_law_bad_say k_law_bad_say b_law_bad_say .nil pass0 (pa_cons (pv 0) (pa_cons (pv 1) (pa_cons (pv 3) (pa_cons (pe_ix (r := rIx K) ix_seq (pe_dget (hu_of hr) (pv 0) pe_str (fun _ _ => rfl)) pe_int (fun _ _ => rfl)) pa_nil))))))) pss_nil))) (pss_one (ps_if (pt_cmpR (r := rEqD K) (op_eqD hr.units) (pe_dget (hu_of hr) (pv 0) pe_str (fun _ _ => rfl)) pe_str (nomark _)) (pss_one (ps_dput (hu_of hr) (pv 0) pe_str (pe_tup (pa_cons pe_str (pa_cons (pv 3) (pa_cons (pv 4) pa_nil)))) rfl)) (pss_cons (ps_set (i := 6) sc_law_bad_come.nd rfl (Or.inl rfl) (pe_tup (pa_cons (pe_op (r := rAddX K) op_addX (pe_ix (r := rIx K) ix_seq (pe_dget (hu_of hr) (pv 0) pe_str (fun _ _ => rfl)) pe_int (fun _ _ => rfl)) pe_int) (pa_cons (pe_ix (r := rIx K) ix_seq (pv 5) (pv 4) (fun _ _ => rfl)) (pa_cons (pv 3) (pa_cons (pe_op (r := rAddX K) op_addX (pv 4) pe_int) pa_nil))))))
          (pss_cons (ps_dput (hu_of hr) (pv 0) pe_str (pe_op (r := rAddX K) op_addX (pe_dget (hu_of hr) (pv 0) pe_str (fun _ _ => rfl)) (pe_ifExp (pt_cmpR (r := rInX K true) (op_ninX (u65 hr)) (pv 6) (pe_dget (hu_of hr) (pv 0) pe_str (fun _ _ => rfl)) (by with_unfolding_all rfl)) (pe_lst (pa_cons (pv 6) pa_nil)) (pe_lst pa_nil))) rfl)
          (pss_cons (ps_dput (hu_of hr) (pv 0) pe_str (pe_tup (pa_cons pe_str (pa_cons (pv 6) pa_nil))) rfl)
          (pss_one (ps_if (PW.pt (pw_and (pt_cmpR (r := rEqD K) (op_eqD hr.units) (pe_dget (hu_of hr) (pv 0) pe_str (fun _ _ => rfl)) pe_str (nomark _)) (pw_and1 (pt_cmpR (r := rEqD K) (op_eqD hr.units) (pe_op (r := rAddX K) op_addX (pv 4) pe_int) (pe_callB (id := "len") (r := rLenX K) call_lenX (by rfl) T.g_len (by decide +kernel) (pa_cons (pv 5) pa_nil)) (nomark _))))) (pss_one (ps_expr (pe_call F_law_bad_say (hr.mono (by decide)) (by rfl) T.g_law_bad_say k_law_bad_say b_law_bad_say .nil pass0 (pa_cons (pv 0) (pa_cons (pv 1) (pa_cons (pv 3) (pa_cons (pe_ix (r := rIx K) ix_seq (pv 6) pe_int (fun _ _ => rfl)) pa_nil))))))) pss_nil)))))))))), ?_⟩
    try dsimp only [cxOf, Cx.nox, Cx.wish]
    refine rd_start [some (.ref p), some vM, some vG, some vl, some vd, none, none] ?_
    refine q_set (K := K) (d := eL (rowT M G l)) (ed_if (et_test (ed_neNil (ed_v h3))) (fun q => ?_) fun q => ?_) fun y H1 e1 hy => ?_
    · exact ed_lineL hH hl (of_decide_eq_true q) (ed_v h1) (ed_v h2) (ed_v h3) hT (by walk_at "kp")
    · have e : l = [] := Classical.not_not.mp (of_decide_eq_false q)
      subst e
      exact ed_tup (ds := []) ea_nil (by simp)
    · have hL1 := hL.to e1
      refine st_if (k := decide (d = (rowT M G l).length)) (EdT.is (et_test (ed_op (ed_v h4) (ed_lenT (ed_v hy)) rd_eqI)) ?_) (fun q H2 e2 => ?_) fun q H2 e2 => ?_
      · rw [List.length_map]
        exact decide_eq_decide.mpr (by omega)
      · have q2 := of_decide_eq_true q
        refine q_putStand (ed_tup (ea_cons ed_str (ea_cons (ed_v h3) ea_nil)) (by simp)) ev_v (hL1.to e2) fun H3 c3 hL3' => ?_
        have hL3 : LawB K B H3 p (lsOf mn { S with stand := .choice l }) := hL3'
        unfold comeW at hQ
        rw [if_pos q2] at hQ
        refine st_if (k := decide (mn ≠ .early)) (et_test (ed_neMn .early (ed_manner ev_v hL3))) (fun q3 H4 e4 => ?_) fun q3 H4 e4 => ?_
        · have q4 := of_decide_eq_true q3
          rw [if_neg q4] at hQ
          refine st_callLW ev_v (hL3.to e4) (ea_cons (ed_v h1) (ea_cons (ed_v h3) (ea_cons (ed_op (ed_wheel ev_v (hL3.to e4)) ed_int (rd_ix (by rfl))) ea_nil))) hT (by walk_at "kp") ⟨M, G, m, n, l, S.rd.1, rfl, hH, hl, by omega, ⟨hs.sh, hs.hd, hs.sp⟩, rfl⟩ fun H5 c5 hL5 => hQ H5 ((e1.trans e2).chg.trans (c3.trans (e4.chg.trans c5))) ?_
          rw [say_stand] at hL5
          exact hL5
        · have q4 := Classical.not_not.mp (of_decide_eq_false q3)
          rw [if_pos q4] at hQ
          exact hQ H4 ((e1.trans e2).chg.trans (c3.trans e4.chg)) (hL3.to e4)
      · have q2 := of_decide_eq_false q
        have hd2 : d < (rowT M G l).length := by omega
        unfold comeW at hQ
        rw [if_neg q2] at hQ
        refine st_if (k := decide (mn = .late)) (et_test (ed_isMn .late (ed_manner ev_v (hL1.to e2)))) (fun q3 H3 e3 => ?_) fun q3 H3 e3 => ?_
        · rw [if_pos (of_decide_eq_true q3)] at hQ
          exact st_putStand (ed_tup (ea_cons ed_str (ea_cons (ed_v h3) (ea_cons (ed_v h4) ea_nil))) (by simp)) ev_v ((hL1.to e2).to e3) fun H4 c4 hL4 => hQ H4 ((e1.trans (e2.trans e3)).chg.trans c4) hL4
        · rw [if_neg (of_decide_eq_false q3)] at hQ
          have hL3 := (hL1.to e2).to e3
          generalize hnt : (⟨S.rd.1 + 1, some ((rowT M G l).getD d 0), l, d + 1⟩ : Nt) = t at hQ
          have et : Dt.tup [.int ((S.rd.1 : Int) + 1), eN ((rowT M G l).getD d 0), eL l, .int ((d : Int) + 1)] = eNt t := by
            rw [← hnt]
            rfl
          refine q_set (Ed.is (ed_tup (ea_cons (ed_op (ed_op (ed_wheel ev_v hL3) ed_int (rd_ix (by rfl))) ed_int rd_addI) (ea_cons (ed_op (ed_v hy) (ed_v h4) (rd_ix (at_map (getD_at hd2)))) (ea_cons (ed_v h3) (ea_cons (ed_op (ed_v h4) ed_int rd_addI) ea_nil)))) (by simp)) et) fun z H4 e4 hz => ?_
          have hL4 := hL3.to e4
          have hsh := hs.sh
          have put : EdN K (tOp (rAddX K) (tDGet (tVar 0) (tC (V.str "shelf"))) (tIf (tTest (tOp (rInX K true) (tVar 6) (tDGet (tVar 0) (tC (V.str "shelf"))))) (tLst (tCons (tVar 6) tNil)) (tLst tNil))) [some (.ref p), some vM, some vG, some vl, some vd, some y, some z] H4 ((putW t S).shelf.map eNt) := by
            unfold putW
            dsimp only
            by_cases hm : t ∈ S.shelf
            · have e : (if t ∈ S.shelf then S.shelf else S.shelf ++ [t]).map eNt = S.shelf.map eNt ++ [] := by rw [if_pos hm, List.append_nil]
              rw [e]
              exact en_catM (em_shelf ev_v hL4) (el_if (k := false) (et_test (ed_ninL (n := 2) (m := 2) (ed_v hz) (em_shelf ev_v hL4).l ok_eNt all_ok_eNt (show false = true ↔ eNt t ∉ S.shelf.map eNt by simp [mem_eNt, hm]))) (fun q => by cases q) fun _ => en_lst ea_nil (by simp)).em (by show (S.shelf.map eNt).length + _ ≤ _; rw [List.length_map]; simp; omega)
            · have e : (if t ∈ S.shelf then S.shelf else S.shelf ++ [t]).map eNt = S.shelf.map eNt ++ [eNt t] := by rw [if_neg hm, List.map_append]; rfl
              rw [e]
              exact en_catM (em_shelf ev_v hL4) (el_if (k := true) (et_test (ed_ninL (n := 2) (m := 2) (ed_v hz) (em_shelf ev_v hL4).l ok_eNt all_ok_eNt (show true = true ↔ eNt t ∉ S.shelf.map eNt by simp [mem_eNt, hm]))) (fun _ => en_lst (ea_cons (ed_v hz) ea_nil) (by simp)) fun q => by cases q).em (by show (S.shelf.map eNt).length + _ ≤ _; rw [List.length_map]; simp; omega)
          refine q_putShelf put ev_v hL4 fun H5 c5 hL5' => ?_
          have hL5 : LawB K B H5 p (lsOf mn (putW t S)) := hL5'
          refine q_putStand (ed_tup (ea_cons ed_str (ea_cons (ed_v hz) ea_nil)) (by simp)) ev_v hL5 fun H6 c6 hL6' => ?_
          have hL6 : LawB K B H6 p (lsOf mn { putW t S with stand := .laid t }) := hL6'
          refine st_if (k := decide (mn = .early) && decide (d + 1 = (rowT M G l).length)) (EdT.is (et_and (et_test (ed_isMn .early (ed_manner ev_v hL6))) fun _ => et_test (ed_op (ed_op (ed_v h4) ed_int rd_addI) (ed_lenT (ed_v hy)) rd_eqI)) ?_) (fun q5 H7 e7 => ?_) fun q5 H7 e7 => ?_
          · congr 1
            rw [List.length_map]
            exact decide_eq_decide.mpr (by omega)
          · rw [Bool.and_eq_true, decide_eq_true_iff, decide_eq_true_iff] at q5
            rw [if_pos q5] at hQ
            have hsm : Sm { putW t S with stand := .laid t } ∨ True := .inr trivial
            refine st_callLW ev_v (hL6.to e7) (ea_cons (ed_v h1) (ea_cons (ed_v h3) (ea_cons (Ed.is (ed_op (ed_v hz) ed_int (rd_ix (by rfl))) (show eN t.n = eN (S.rd.1 + 1) by rw [← hnt])) ea_nil))) hT (by walk_at "kp") ⟨M, G, m, n, l, S.rd.1 + 1, rfl, hH, hl, by omega, ?_, rfl⟩ fun H8 c8 hL8 => hQ H8 ((e1.trans (e2.trans (e3.trans e4))).chg.trans (c5.trans (c6.trans (e7.chg.trans c8)))) ?_
            · refine ⟨?_, hs.hd, hs.sp⟩
              show (if t ∈ S.shelf then S.shelf else S.shelf ++ [t]).length ≤ 90
              split
              · omega
              · simp
                omega
            · rw [say_stand] at hL8
              exact hL8
          · have q6 : ¬ (mn = .early ∧ d + 1 = (rowT M G l).length) := fun z => by simp [z.1, z.2] at q5
            rw [if_neg q6] at hQ
            exact hQ H7 ((e1.trans (e2.trans (e3.trans e4))).chg.trans (c5.trans (c6.trans e7.chg))) (hL6.to e7)
end
end K29
set_option Elab.async false
set_option linter.all false
set_option maxRecDepth 100000
set_option maxHeartbeats 4000000
/-! the law's world: a step, what can be done -/
namespace K29
open PySem PySem.Spec PyProof.Rows L2
local macro_rules | `(tactic| walk_at "kp") => `(tactic| first | exact Kp.refl _ | assumption | exact Chg.kp (by assumption) | (refine Kp.trans ?_ (Chg.kp (by assumption)); walk_at "kp"))
local macro_rules | `(tactic| walk_at "ext") => `(tactic| first | exact Ext.refl _ | assumption | (refine Ext.trans ?_ (by assumption); walk_at "ext"))

def keyS : Stp → Str
  | .boot _ => "boot"
  | .ask _ => "ask"
  | .turn => "turn"
  | .put => "seal"
  | .cut => "cut"
def keyG : Sg → Str
  | .off => "off"
  | .mute => "mute"
  | .choice _ => "choice"
  | .ready _ _ => "ready"
  | .laid _ => "sealed"
  | .bare _ _ => "bare"
theorem keyS_ok : ∀ s : Stp, PyData.strOk (keyS s) = true
  | .boot _ => show PyData.strOk "boot" = true by decide +kernel
  | .ask _ => show PyData.strOk "ask" = true by decide +kernel
  | .turn => show PyData.strOk "turn" = true by decide +kernel
  | .put => show PyData.strOk "seal" = true by decide +kernel
  | .cut => show PyData.strOk "cut" = true by decide +kernel
theorem keyG_ok : ∀ s : Sg, PyData.strOk (keyG s) = true
  | .off => show PyData.strOk "off" = true by decide +kernel
  | .mute => show PyData.strOk "mute" = true by decide +kernel
  | .choice _ => show PyData.strOk "choice" = true by decide +kernel
  | .ready _ _ => show PyData.strOk "ready" = true by decide +kernel
  | .laid _ => show PyData.strOk "sealed" = true by decide +kernel
  | .bare _ _ => show PyData.strOk "bare" = true by decide +kernel
local macro_rules | `(tactic| walk_at "chg") => `(tactic| first | exact Chg.refl _ _ | assumption | exact Ext.chg (by assumption) | (refine Chg.trans ?_ (by assumption); walk_at "chg") | (refine Chg.trans ?_ (Ext.chg (by assumption)); walk_at "chg"))
local macro_rules | `(tactic| walk_at "law") => `(tactic| first | assumption | (refine LawB.to ?_ (by assumption); walk_at "law"))
theorem come_stand {mn : Mn} {M : Mach} {G : Tbl} {l : Life} {d : Nat} {S : WS} {s : Sg} : comeW mn M G l d { S with stand := s } = comeW mn M G l d S := by
  have e1 : ∀ x, sayW M l x { S with stand := s } = { sayW M l x S with stand := s } := fun x => say_stand
  have e2 : ∀ t, putW t { S with stand := s } = { putW t S with stand := s } := fun t => rfl
  unfold comeW
  simp only [e1, e2, say_stand]
  split
  · split <;> rfl
  · split
    · rfl
    · split <;> rfl
section
variable {K : PySem.W.Frag} {H H' H0 H1 H2 : Hp} {σ : L2.St} {te td tv ta tb tM tG tl : TE} {D : Ends} {tz tu : TS} {t : TT}
theorem ed_keyS {s : Stp} (h : Ed K ta σ H (eStp s)) : Ed K (tOp (rIx K) ta (tC (.int 0))) σ H (.str (keyS s)) := by
  cases s <;> exact ed_op h ed_int (rd_ix (by rfl))
theorem ed_keyG {s : Sg} (h : Ed K ta σ H (eSg s)) : Ed K (tOp (rIx K) ta (tC (.int 0))) σ H (.str (keyG s)) := by
  cases s <;> exact ed_op h ed_int (rd_ix (by rfl))
theorem et_keyS {s : Stp} {y : Str} {k : Bool} (h : Ed K ta σ H (eStp s)) (hy : PyData.strOk y = true) (e : decide (keyS s = y) = k) : EdT (tTest (tOp (rEqD K) (tOp (rIx K) ta (tC (.int 0))) (tC (.str y)))) σ H k := et_test (ed_eqC (ed_keyS h) (keyS_ok s) hy e)
theorem et_keyG {s : Sg} {y : Str} {k : Bool} (h : Ed K ta σ H (eSg s)) (hy : PyData.strOk y = true) (e : decide (keyG s = y) = k) : EdT (tTest (tOp (rEqD K) (tOp (rIx K) ta (tC (.int 0))) (tC (.str y)))) σ H k := et_test (ed_eqC (ed_keyG h) (keyG_ok s) hy e)
theorem et_no {u : TT} (h : EdT t σ H false) : EdT (tAnd t u) σ H false := fun H1 e Q q => h H1 e _ fun H2 e2 => by
  rw [if_neg Bool.false_ne_true]
  exact q H2 e2
theorem q_skip (h : EdT t σ H false) (k : ∀ H1, Ext H H1 → tz D σ H1) : tSeq (tIfS t tu tNext) tz D σ H := q_if h (fun q => by cases q) fun _ H1 e => k H1 e
theorem st_skip (h : EdT t σ H false) (k : ∀ H1, Ext H H1 → D.nx σ H1) : tIfS t tu tNext D σ H := st_if h (fun q => by cases q) fun _ H1 e => k H1 e
theorem q_do (h : EdT t σ H true) (k : ∀ H1, Ext H H1 → tu { D with nx := tz D } σ H1) : tSeq (tIfS t tu tNext) tz D σ H := q_if h (fun _ H1 e => k H1 e) fun q => by cases q
theorem st_do (h : EdT t σ H true) (k : ∀ H1, Ext H H1 → tu D σ H1) : tIfS t tu tNext D σ H := st_if h (fun _ H1 e => k H1 e) fun q => by cases q
/-- a list and a note behind it, if it is not there -/
theorem en_putW {S : WS} {p : Addr} {mn : Mn} {t : Nt} (h : EdV td σ H (.ref p)) (hL : LawB K B H p (lsOf mn S)) (hz : Ed K tl σ H (eNt t)) (hs : S.shelf.length ≤ 100) :
    EdN K (tOp (rAddX K) (tDGet td (tC (.str "shelf"))) (tIf (tTest (tOp (rInX K true) tl (tDGet td (tC (.str "shelf"))))) (tLst (tCons tl tNil)) (tLst tNil))) σ H ((putW t S).shelf.map eNt) := by
  unfold putW
  dsimp only
  by_cases hm : t ∈ S.shelf
  · have e : (if t ∈ S.shelf then S.shelf else S.shelf ++ [t]).map eNt = S.shelf.map eNt ++ [] := by rw [if_pos hm, List.append_nil]
    rw [e]
    exact en_catM (em_shelf h hL) (el_if (k := false) (et_test (ed_ninL (n := 2) (m := 2) hz (em_shelf h hL).l ok_eNt all_ok_eNt (show false = true ↔ eNt t ∉ S.shelf.map eNt by simp [mem_eNt, hm]))) (fun q => by cases q) fun _ => en_lst ea_nil (by simp)).em (by show (S.shelf.map eNt).length + _ ≤ _; rw [List.length_map]; simp; omega)
  · have e : (if t ∈ S.shelf then S.shelf else S.shelf ++ [t]).map eNt = S.shelf.map eNt ++ [eNt t] := by rw [if_neg hm, List.map_append]; rfl
    rw [e]
    exact en_catM (em_shelf h hL) (el_if (k := true) (et_test (ed_ninL (n := 2) (m := 2) hz (em_shelf h hL).l ok_eNt all_ok_eNt (show true = true ↔ eNt t ∉ S.shelf.map eNt by simp [mem_eNt, hm]))) (fun _ => en_lst (ea_cons hz ea_nil) (by simp)) fun q => by cases q).em (by show (S.shelf.map eNt).length + _ ≤ _; rw [List.length_map]; simp; omega)
end
theorem GoodW.sm {M : Mach} {G : Tbl} {n : Nat} {S : WS} (g : GoodW M G n S) (h : n ≤ 60) : Sm S := ⟨by have := g.ls; omega, by have := g.lh; omega, by have := g.lp; omega⟩
section
variable {P : Program} {w : World} {K : PySem.W.Frag} {mg : Str → Option Value} {base : Heap}
def R_law_bad_step (ds : List Dt) (mn : Mn) (S S' : WS) : Prop := ∃ (M : Mach) (G : Tbl) (m n : Nat) (st : Stp), ds = [eM M, eT G, eStp st] ∧ House M G m ∧ GoodW M G n S ∧ n ≤ 60 ∧ st ∈ canW M S ∧ S' = stepW mn M G S st
theorem sc_law_bad_step : FnScope ["_law_world_here", "_law_machine_here", "_law_table_here", "_law_step", "_law_stand", "_law_line", "_law_note"] ["_law_world_here", "_law_machine_here", "_law_table_here", "_law_step"] (defScope s_law_bad_step) := ⟨rfl, rfl, rfl, by decide +kernel, rfl, by decide +kernel, by decide +kernel⟩
theorem ok_law_bad_step (T : Txt w K mg base) : Ok P w K mg base 6 ("_law_bad_step", none) ["_law_world_here", "_law_machine_here", "_law_table_here", "_law_step"] (SpLW K (TL K) R_law_bad_step) := by
  obtain ⟨⟨fd_law_bad_fits, F_law_bad_fits, b_law_bad_fits⟩, k_law_bad_fits⟩ := ok_law_bad_fits (P := P) T
  obtain ⟨⟨fd_law_bad_come, F_law_bad_come, b_law_bad_come⟩, k_law_bad_come⟩ := ok_law_bad_come (P := P) T
  obtain ⟨⟨fd_law_state_behind, F_law_state_behind, b_law_state_behind⟩, k_law_state_behind⟩ := ok_law_state_behind (P := P) T
  refine ok_of (k := 5) T.f_law_bad_step sc_law_bad_step (fun vs H Q E h => ?_) (fun _ _ _ _ _ _ us hl => match us, hl with | [_, _, _, _], _ => rfl) (fun cdv A outer s H vs Q E hr h => ?_)
  · obtain ⟨B, p, rest, ds, mn, S, S', rfl, hi, _, _, ⟨M, G, m, n, l, rfl, _⟩, _⟩ := h
    rw [List.length_cons, hi.length]
    rfl
  · obtain ⟨B, p, rest, ds, mn, S, S', rfl, hi, hT, hL, ⟨M, G, m, n, st, rfl, hH, hg, hn, hc, rfl⟩, hQ⟩ := h
    cases hi with | cons h1 hi => cases hi with | cons h2 hi => cases hi with | cons h3 hi =>
    cases hi
    rename_i vM vG vs
    refine ⟨_, (pss_cons (ps_set (i := 4) sc_law_bad_step.nd rfl (Or.inl rfl) (pe_dget (hu_of hr) (pv 0) pe_str (fun _ _ => rfl)))
      (pss_cons (ps_if (pt_cmpR (r := rEqD K) (op_eqD hr.units) (pe_ix (r := rIx K) ix_seq (pv 3) pe_int (fun _ _ => rfl)) pe_str (nomark _)) (pss_cons (ps_dput (hu_of hr) (pv 0) pe_str (pe_tup (pa_cons pe_str pa_nil)) rfl)
        (pss_one (ps_if (pt_val (pe_call F_law_bad_fits (hr.mono (by decide)) (by rfl) T.g_law_bad_fits k_law_bad_fits b_law_bad_fits .nil pass0 (pa_cons (pv 0) (pa_cons (pe_ix (r := rIx K) ix_seq (pv 3) pe_int (fun _ _ => rfl)) pa_nil)))) (pss_one (ps_expr (pe_call F_law_bad_come (hr.mono (by decide)) (by rfl) T.g_law_bad_come k_law_bad_come b_law_bad_come .nil pass0 (pa_cons (pv 0) (pa_cons (pv 1) (pa_cons (pv 2) (pa_cons (pe_ix (r := rIx K) ix_seq (pe_ix (r := rIx K) ix_seq (pv 3) pe_int (fun _ _ => rfl)) pe_int (fun _ _ => rfl)) (pa_cons (pe_ix (r := rIx K) ix_seq (pe_ix (r := rIx K) ix_seq (pv 3) pe_int (fun _ _ => rfl)) pe_int (fun _ _ => rfl)) pa_nil)))))))) pss_nil))) pss_nil)
      (pss_cons (ps_if (pt_cmpR (r := rEqD K) (op_eqD hr.units) (pe_ix (r := rIx K) ix_seq (pv 3) pe_int (fun _ _ => rfl)) pe_str (nomark _)) (pss_one (ps_expr (pe_call F_law_bad_come (hr.mono (by decide)) (by rfl) T.g_law_bad_come k_law_bad_come b_law_bad_come .nil pass0 (pa_cons (pv 0) (pa_cons (pv 1) (pa_cons (pv 2) (pa_cons (pe_op (r := rAddX K) op_addX (pe_ix (r := rIx K) ix_seq (pv 4) pe_int (fun _ _ => rfl)) (pe_tup (pa_cons (pe_ix (r := rIx K) ix_seq (pv 3) pe_int (fun _ _ => rfl)) pa_nil))) (pa_cons pe_int pa_nil)))))))) pss_nil)
      (pss_cons (ps_if (PW.pt (pw_and (pt_cmpR (r := rEqD K) (op_eqD hr.units) (pe_ix (r := rIx K) ix_seq (pv 3) pe_int (fun _ _ => rfl)) pe_str (nomark _)) (pw_and1 (pt_cmpR (r := rEqD K) (op_eqD hr.units) (pe_ix (r := rIx K) ix_seq (pv 4) pe_int (fun _ _ => rfl)) pe_str (nomark _))))) (pss_cons (ps_dput (hu_of hr) (pv 0) pe_str (pe_tup (pa_cons (pe_op (r := rAddX K) op_addX (pe_ix (r := rIx K) ix_seq (pe_dget (hu_of hr) (pv 0) pe_str (fun _ _ => rfl)) pe_int (fun _ _ => rfl)) pe_int) (pa_cons (pe_ix (r := rIx K) ix_seq (pe_ix (r := rIx K) ix_seq (pv 4) pe_int (fun _ _ => rfl)) pe_int (fun _ _ => rfl)) pa_nil))) rfl)
        (pss_one (ps_expr (pe_call F_law_bad_come (hr.mono (by decide)) (by rfl) T.g_law_bad_come k_law_bad_come b_law_bad_come .nil pass0 (pa_cons (pv 0) (pa_cons (pv 1) (pa_cons (pv 2) (pa_cons (pe_ix (r := rIx K) ix_seq (pe_ix (r := rIx K) ix_seq (pv 4) pe_int (fun _ _ => rfl)) pe_int (fun _ _ => rfl)) (pa_cons (pe_ix (r := rIx K) ix_seq (pe_ix (r := rIx K) ix_seq (pv 4) pe_int (fun _ _ => rfl)) pe_int (fun _ _ => rfl)) pa_nil))))))))) pss_nil)
      (pss_cons (ps_if (PW.pt (pw_and (pt_cmpR (r := rEqD K) (op_eqD hr.units) (pe_ix (r := rIx K) ix_seq (pv 3) pe_int (fun _ _ => rfl)) pe_str (nomark _)) (pw_and1 (pt_cmpR (r := rEqD K) (op_eqD hr.units) (pe_ix (r := rIx K) ix_seq (pv 4) pe_int (fun _ _ => rfl)) pe_str (nomark _))))) (pss_cons (ps_set (i := 5) sc_law_bad_step.nd rfl (Or.inl rfl) (pe_ix (r := rIx K) ix_seq (pe_ix (r := rIx K) ix_seq (pv 2) (pe_call F_law_state_behind (hr.mono (by decide)) (by rfl) T.g_law_state_behind k_law_state_behind b_law_state_behind .nil pass0 (pa_cons (pv 1) (pa_cons (pe_slice (r := rSlX K) sl_X (pe_ix (r := rIx K) ix_seq (pv 4) pe_int (fun _ _ => rfl)) po_none (po_some (pe_un un_neg pe_int))) pa_nil))) (fun _ _ => rfl)) (pe_ix (r := rIx K) ix_seq (pe_ix (r := rIx K) ix_seq (pv 4) pe_int (fun _ _ => rfl)) (pe_un un_neg pe_int) (fun _ _ => rfl)) (fun _ _ => rfl)))
        (pss_cons (ps_dput (hu_of hr) (pv 0) pe_str (pe_tup (pa_cons (pe_op (r := rAddX K) op_addX (pe_ix (r := rIx K) ix_seq (pe_dget (hu_of hr) (pv 0) pe_str (fun _ _ => rfl)) pe_int (fun _ _ => rfl)) pe_int) (pa_cons (pe_ix (r := rIx K) ix_seq (pv 5) (pe_ix (r := rIx K) ix_seq (pv 4) pe_int (fun _ _ => rfl)) (fun _ _ => rfl)) pa_nil))) rfl)
        (pss_one (ps_dput (hu_of hr) (pv 0) pe_str (pe_tup (pa_cons pe_str (pa_cons (pe_ix (r := rIx K) ix_seq (pv 4) pe_int (fun _ _ => rfl)) (pa_cons (pe_op (r := rAddX K) op_addX (pe_ix (r := rIx K) ix_seq (pv 4) pe_int (fun _ _ => rfl)) pe_int) pa_nil)))) rfl)))) pss_nil)
      (pss_cons (ps_if (pt_cmpR (r := rEqD K) (op_eqD hr.units) (pe_ix (r := rIx K) ix_seq (pv 3) pe_int (fun _ _ => rfl)) pe_str (nomark _)) (pss_cons (ps_set (i := 6) sc_law_bad_step.nd rfl (Or.inl rfl) (pe_op (r := rAddX K) op_addX (pe_dget (hu_of hr) (pv 0) pe_str (fun _ _ => rfl)) (pe_slice (r := rSlX K) sl_X (pv 4) (po_some pe_int) po_none)))
        (pss_cons (ps_dput (hu_of hr) (pv 0) pe_str (pe_op (r := rAddX K) op_addX (pe_dget (hu_of hr) (pv 0) pe_str (fun _ _ => rfl)) (pe_ifExp (pt_cmpR (r := rInX K true) (op_ninX (u65 hr)) (pv 6) (pe_dget (hu_of hr) (pv 0) pe_str (fun _ _ => rfl)) (by with_unfolding_all rfl)) (pe_lst (pa_cons (pv 6) pa_nil)) (pe_lst pa_nil))) rfl)
        (pss_one (ps_expr (pe_call F_law_bad_come (hr.mono (by decide)) (by rfl) T.g_law_bad_come k_law_bad_come b_law_bad_come .nil pass0 (pa_cons (pv 0) (pa_cons (pv 1) (pa_cons (pv 2) (pa_cons (pe_ix (r := rIx K) ix_seq (pv 4) pe_int (fun _ _ => rfl)) (pa_cons (pe_ix (r := rIx K) ix_seq (pv 4) pe_int (fun _ _ => rfl)) pa_nil)))))))))) pss_nil)
      (pss_one (ps_if (pt_cmpR (r := rEqD K) (op_eqD hr.units) (pe_ix (r := rIx K) ix_seq (pv 3) pe_int (fun _ _ => rfl)) pe_str (nomark _)) (pss_one (ps_dput (hu_of hr) (pv 0) pe_str (pe_tup (pa_cons pe_str pa_nil)) rfl)) pss_nil)))))))), ?_⟩
    try dsimp only [cxOf, Cx.nox, Cx.wish]
    refine rd_start [some (.ref p), some vM, some vG, some vs, none, none, none] ?_
    have hsm := hg.sm hn
    have hls := hg.ls
    refine q_set (K := K) (ed_stand ev_v hL) fun y H1 e1 hy0 => ?_
    have hy : Im K H1 y (eSg S.stand) := hy0
    have hL1 := hL.to e1
    refine rd_start' [some (.ref p), some vM, some vG, some vs, some y, none, none] ?_
    cases st with
    | boot t =>
      have hoff : S.stand = .off ∧ t ∈ S.shelf := by
        unfold canW at hc
        cases hs : S.stand <;> rw [hs] at hc <;> simp at hc
        exact ⟨rfl, hc⟩
      have htn := hg.sh t hoff.2
      have hQ2 : stepW mn M G S (.boot t) = if fitsW mn S.rd t then comeW mn M G t.l t.d { S with stand := .mute } else { S with stand := .mute } := by
        rw [come_stand]
        rfl
      rw [hQ2] at hQ
      refine q_do (et_keyS (ed_v h3) (by decide +kernel) (by rfl)) fun H2 e2 => ?_
      refine q_putStand (ed_tup (ea_cons ed_str ea_nil) (by simp)) ev_v (hL1.to e2) fun H3 c3 hL3' => ?_
      have hL3 : LawB K B H3 p (lsOf mn { S with stand := .mute }) := hL3'
      have h3c : Im K H3 vs (eStp (.boot t)) := h3.to (by walk_at "kp")
      refine st_if (k := fitsW mn S.rd t) (et_B (ed_callLF ev_v hL3 (ea_cons (ed_op (ed_v h3) ed_int (rd_ix (by rfl))) ea_nil) hT (by walk_at "kp") ⟨t, rfl, rfl⟩)) (fun q H4 e4 => ?_) fun q H4 e4 => ?_
      · rw [if_pos q] at hQ
        obtain ⟨tn, tk, tl, td⟩ := t
        refine st_callLW ev_v (hL3.to e4) (ea_cons (ed_v h1) (ea_cons (ed_v h2) (ea_cons (ed_op (ed_op (ed_v h3) ed_int (rd_ix (by rfl))) ed_int (rd_ix (by rfl))) (ea_cons (ed_op (ed_op (ed_v h3) ed_int (rd_ix (by rfl))) ed_int (rd_ix (by rfl))) ea_nil)))) hT (by walk_at "kp") ⟨M, G, m, n, tl, td, rfl, hH, htn.lv, by omega, htn.d, ⟨hsm.sh, hsm.hd, hsm.sp⟩, by show S.shelf.length ≤ 85; omega, rfl⟩ fun H5 c5 hL5 => ?_
        dsimp only
        refine q_skip (et_keyS (ed_v h3) (by decide +kernel) (by rfl)) fun _ _ => ?_
        refine q_skip (et_no (et_keyS (ed_v h3) (by decide +kernel) (by rfl))) fun _ _ => ?_
        refine q_skip (et_no (et_keyS (ed_v h3) (by decide +kernel) (by rfl))) fun _ _ => ?_
        refine q_skip (et_keyS (ed_v h3) (by decide +kernel) (by rfl)) fun _ _ => ?_
        refine st_skip (et_keyS (ed_v h3) (by decide +kernel) (by rfl)) fun _ _ => ?_
        exact hQ _ (by walk_at "chg") (by walk_at "law")
      · rw [if_neg (by rw [q]; exact Bool.false_ne_true)] at hQ
        dsimp only
        refine q_skip (et_keyS (ed_v h3) (by decide +kernel) (by rfl)) fun _ _ => ?_
        refine q_skip (et_no (et_keyS (ed_v h3) (by decide +kernel) (by rfl))) fun _ _ => ?_
        refine q_skip (et_no (et_keyS (ed_v h3) (by decide +kernel) (by rfl))) fun _ _ => ?_
        refine q_skip (et_keyS (ed_v h3) (by decide +kernel) (by rfl)) fun _ _ => ?_
        refine st_skip (et_keyS (ed_v h3) (by decide +kernel) (by rfl)) fun _ _ => ?_
        exact hQ _ (by walk_at "chg") (by walk_at "law")
    | ask o =>
      obtain ⟨l, hs, ho⟩ : ∃ l, S.stand = .choice l ∧ o < optsN M l := by
        unfold canW at hc
        cases hs : S.stand <;> rw [hs] at hc <;> simp at hc
        exact ⟨_, rfl, hc⟩
      have hsg := hg.sg
      rw [hs] at hsg hy
      have hl2 := ask_life hH hsg ho
      have hQ2 : stepW mn M G S (.ask o) = comeW mn M G (l ++ [o]) 0 S := by
        unfold stepW
        rw [hs]
      rw [hQ2] at hQ
      refine q_skip (et_keyS (ed_v h3) (by decide +kernel) (by rfl)) fun _ _ => ?_
      refine q_do (et_keyS (ed_v h3) (by decide +kernel) (by rfl)) fun H2 e2 => ?_
      have hL2 : LawB K B H2 p (lsOf mn S) := by walk_at "law"
      refine st_callLW ev_v hL2 (ea_cons (ed_v h1) (ea_cons (ed_v h2) (ea_cons (Ed.is (ed_op (ed_op (ed_v hy) ed_int (rd_ix (by rfl))) (ed_tup (ea_cons (ed_op (ed_v h3) ed_int (rd_ix (by rfl))) ea_nil) (by simp)) (rd_addT (ds := l.map eN) (es := [eN o]) (by rw [List.length_map]; have := hsg.2; simp; omega))) (show _ = eL (l ++ [o]) by unfold eL; rw [List.map_append]; rfl)) (ea_cons ed_int ea_nil)))) hT (by walk_at "kp") ⟨M, G, m, n + 1, l ++ [o], 0, rfl, hH, hl2, by omega, Nat.zero_le _, hsm, by omega, rfl⟩ fun H5 c5 hL5 => ?_
      dsimp only
      refine q_skip (et_no (et_keyS (ed_v h3) (by decide +kernel) (by rfl))) fun _ _ => ?_
      refine q_skip (et_no (et_keyS (ed_v h3) (by decide +kernel) (by rfl))) fun _ _ => ?_
      refine q_skip (et_keyS (ed_v h3) (by decide +kernel) (by rfl)) fun _ _ => ?_
      refine st_skip (et_keyS (ed_v h3) (by decide +kernel) (by rfl)) fun _ _ => ?_
      exact hQ _ (by walk_at "chg") (by walk_at "law")
    | turn =>
      refine q_skip (et_keyS (ed_v h3) (by decide +kernel) (by rfl)) fun _ _ => ?_
      refine q_skip (et_keyS (ed_v h3) (by decide +kernel) (by rfl)) fun _ _ => ?_
      have hstand : (∃ t, S.stand = .laid t) ∨ ∃ l d, S.stand = .ready l d := by
        unfold canW at hc
        cases hs : S.stand <;> rw [hs] at hc <;> simp at hc
        · exact .inr ⟨_, _, rfl⟩
        · exact .inl ⟨_, rfl⟩
      have hsg := hg.sg
      rcases hstand with ⟨t, hs⟩ | ⟨l, d, hs⟩
      · rw [hs] at hsg hy
        have hQ2 : stepW mn M G S .turn = comeW mn M G t.l t.d { S with rd := (S.rd.1 + 1, t.k) } := by
          unfold stepW
          rw [hs]
        rw [hQ2] at hQ
        have htn : NtN M G n t := hsg
        refine q_do (EdT.is (et_and (et_keyS (ed_v h3) (by decide +kernel) (by rfl)) fun _ => et_keyG (ed_v hy) (by decide +kernel) (by rfl)) (by rfl)) fun H2 e2 => ?_
        have hL2 : LawB K B H2 p (lsOf mn S) := by walk_at "law"
        obtain ⟨tn, tk, tl, td⟩ := t
        refine q_putWheel (Ed.is (ed_tup (ea_cons (ed_op (ed_op (ed_wheel ev_v hL2) ed_int (rd_ix (by rfl))) ed_int rd_addI) (ea_cons (ed_op (ed_op (ed_v hy) ed_int (rd_ix (by rfl))) ed_int (rd_ix (by rfl))) ea_nil)) (by simp)) (show _ = eRd (S.rd.1 + 1, tk) by rfl)) ev_v hL2 fun H3 c3 hL3' => ?_
        have hL3 : LawB K B H3 p (lsOf mn { S with rd := (S.rd.1 + 1, tk) }) := hL3'
        refine st_callLW ev_v hL3 (ea_cons (ed_v h1) (ea_cons (ed_v h2) (ea_cons (ed_op (ed_op (ed_v hy) ed_int (rd_ix (by rfl))) ed_int (rd_ix (by rfl))) (ea_cons (ed_op (ed_op (ed_v hy) ed_int (rd_ix (by rfl))) ed_int (rd_ix (by rfl))) ea_nil)))) hT (by walk_at "kp") ⟨M, G, m, n, tl, td, rfl, hH, htn.lv, by omega, htn.d, ⟨hsm.sh, hsm.hd, hsm.sp⟩, by show S.shelf.length ≤ 85; omega, rfl⟩ fun H5 c5 hL5 => ?_
        dsimp only
        refine q_skip (EdT.is (et_and (et_keyS (k := true) (ed_v h3) (by decide +kernel) (by rfl)) fun _ => et_keyG (k := false) (ed_v hy) (by decide +kernel) (by rfl)) (by rfl)) fun _ _ => ?_
        refine q_skip (et_keyS (ed_v h3) (by decide +kernel) (by rfl)) fun _ _ => ?_
        refine st_skip (et_keyS (ed_v h3) (by decide +kernel) (by rfl)) fun _ _ => ?_
        exact hQ _ (by walk_at "chg") (by walk_at "law")
      · rw [hs] at hsg hy
        have hQ2 : stepW mn M G S .turn = { S with rd := (S.rd.1 + 1, some ((rowT M G l).getD d 0)), stand := .bare l (d + 1) } := by
          unfold stepW
          rw [hs]
        rw [hQ2] at hQ
        obtain ⟨hlv, hd⟩ : LvN M n l ∧ d < (rowT M G l).length := hsg
        have hne : l ≠ [] := fun z => by
          subst z
          exact absurd hd (Nat.not_lt_zero _)
        refine q_skip (EdT.is (et_and (et_keyS (k := true) (ed_v h3) (by decide +kernel) (by rfl)) fun _ => et_keyG (k := false) (ed_v hy) (by decide +kernel) (by rfl)) (by rfl)) fun _ _ => ?_
        refine q_do (EdT.is (et_and (et_keyS (ed_v h3) (by decide +kernel) (by rfl)) fun _ => et_keyG (ed_v hy) (by decide +kernel) (by rfl)) (by rfl)) fun H2 e2 => ?_
        have hL2 : LawB K B H2 p (lsOf mn S) := by walk_at "law"
        refine q_set (ed_lineL hH hlv hne (ed_v h1) (ed_v h2) (ed_op (ed_v hy) ed_int (rd_ix (by rfl))) hT (by walk_at "kp")) fun z H3 e3 hz => ?_
        refine rd_start' [some (.ref p), some vM, some vG, some vs, some y, some z, none] ?_
        refine q_putWheel (Ed.is (ed_tup (ea_cons (ed_op (ed_op (ed_wheel ev_v (hL2.to e3)) ed_int (rd_ix (by rfl))) ed_int rd_addI) (ea_cons (ed_op (ed_v hz) (ed_op (ed_v hy) ed_int (rd_ix (by rfl))) (rd_ix (at_map (getD_at hd)))) ea_nil)) (by simp)) (show _ = eRd (S.rd.1 + 1, some ((rowT M G l).getD d 0)) by rfl)) ev_v (hL2.to e3) fun H4 c4 hL4' => ?_
        have hL4 : LawB K B H4 p (lsOf mn { S with rd := (S.rd.1 + 1, some ((rowT M G l).getD d 0)) }) := hL4'
        refine st_putStand (d := eSg (.bare l (d + 1))) (Ed.is (ed_tup (ea_cons ed_str (ea_cons (ed_op (ed_v hy) ed_int (rd_ix (by rfl))) (ea_cons (ed_op (ed_op (ed_v hy) ed_int (rd_ix (by rfl))) ed_int rd_addI) ea_nil))) (by simp)) (by rfl)) ev_v hL4 fun H5 c5 hL5' => ?_
        have hL5 : LawB K B H5 p (lsOf mn { S with rd := (S.rd.1 + 1, some ((rowT M G l).getD d 0)), stand := .bare l (d + 1) }) := hL5'
        dsimp only
        refine q_skip (et_keyS (ed_v h3) (by decide +kernel) (by rfl)) fun _ _ => ?_
        refine st_skip (et_keyS (ed_v h3) (by decide +kernel) (by rfl)) fun _ _ => ?_
        exact hQ _ (by walk_at "chg") (by walk_at "law")
    | put =>
      obtain ⟨l, d, hs⟩ : ∃ l d, S.stand = .bare l d := by
        unfold canW at hc
        cases hs : S.stand <;> rw [hs] at hc <;> simp at hc
        exact ⟨_, _, rfl⟩
      have hsg := hg.sg
      rw [hs] at hsg hy
      obtain ⟨hlv, hd⟩ : LvN M n l ∧ d ≤ (rowT M G l).length := hsg
      have hQ2 : stepW mn M G S .put = comeW mn M G l d (putW ⟨S.rd.1, S.rd.2, l, d⟩ S) := by
        unfold stepW
        rw [hs]
      rw [hQ2] at hQ
      refine q_skip (et_keyS (ed_v h3) (by decide +kernel) (by rfl)) fun _ _ => ?_
      refine q_skip (et_keyS (ed_v h3) (by decide +kernel) (by rfl)) fun _ _ => ?_
      refine q_skip (et_no (et_keyS (ed_v h3) (by decide +kernel) (by rfl))) fun _ _ => ?_
      refine q_skip (et_no (et_keyS (ed_v h3) (by decide +kernel) (by rfl))) fun _ _ => ?_
      refine q_do (et_keyS (ed_v h3) (by decide +kernel) (by rfl)) fun H2 e2 => ?_
      have hL2 : LawB K B H2 p (lsOf mn S) := by walk_at "law"
      have e3 : cutD [Dt.str "bare", eL l, eN d] (some ((1 : Int))) none = [eL l, eN d] := by rfl
      refine q_set (Ed.is (ed_op (ed_wheel ev_v hL2) (Ed.is (ed_sl (ed_v hy) (eo_some (K := K) ed_int) eo_none) (congrArg Dt.tup e3)) (rd_addT (ds := [eN S.rd.1, eK S.rd.2]) (by simp))) (show _ = eNt ⟨S.rd.1, S.rd.2, l, d⟩ by rfl)) fun z H3 e3 hz => ?_
      refine rd_start' [some (.ref p), some vM, some vG, some vs, some y, none, some z] ?_
      refine q_putShelf (en_putW ev_v (hL2.to e3) (ed_v hz) (by omega)) ev_v (hL2.to e3) fun H4 c4 hL4' => ?_
      have hL4 : LawB K B H4 p (lsOf mn (putW ⟨S.rd.1, S.rd.2, l, d⟩ S)) := hL4'
      have hp2 : (putW ⟨S.rd.1, S.rd.2, l, d⟩ S).shelf.length ≤ 85 := by
        unfold putW
        dsimp only
        split
        · omega
        · simp
          omega
      refine st_callLW ev_v hL4 (ea_cons (ed_v h1) (ea_cons (ed_v h2) (ea_cons (ed_op (ed_v hy) ed_int (rd_ix (by rfl))) (ea_cons (ed_op (ed_v hy) ed_int (rd_ix (by rfl))) ea_nil)))) hT (by walk_at "kp") ⟨M, G, m, n, l, d, rfl, hH, hlv, by omega, hd, ⟨by omega, hsm.hd, hsm.sp⟩, hp2, rfl⟩ fun H5 c5 hL5 => ?_
      dsimp only
      refine st_skip (et_keyS (ed_v h3) (by decide +kernel) (by rfl)) fun _ _ => ?_
      exact hQ _ (by walk_at "chg") (by walk_at "law")
    | cut =>
      refine q_skip (et_keyS (ed_v h3) (by decide +kernel) (by rfl)) fun _ _ => ?_
      refine q_skip (et_keyS (ed_v h3) (by decide +kernel) (by rfl)) fun _ _ => ?_
      refine q_skip (et_no (et_keyS (ed_v h3) (by decide +kernel) (by rfl))) fun _ _ => ?_
      refine q_skip (et_no (et_keyS (ed_v h3) (by decide +kernel) (by rfl))) fun _ _ => ?_
      refine q_skip (et_keyS (ed_v h3) (by decide +kernel) (by rfl)) fun _ _ => ?_
      refine st_do (et_keyS (ed_v h3) (by decide +kernel) (by rfl)) fun H2 e2 => ?_
      have hL2 : LawB K B H2 p (lsOf mn S) := by walk_at "law"
      exact st_putStand (ed_tup (ea_cons ed_str ea_nil) (by simp)) ev_v hL2 fun H3 c3 hL3 => hQ _ (by walk_at "chg") hL3
end
end K29
set_option Elab.async false
set_option linter.all false
set_option maxRecDepth 100000
set_option maxHeartbeats 4000000
/-! the law's world: what can be done, harm, a new one -/
namespace K29
open PySem PySem.Spec PyProof.Rows L2
local macro_rules | `(tactic| walk_at "kp") => `(tactic| first | exact Kp.refl _ | assumption | exact Chg.kp (by assumption) | (refine Kp.trans ?_ (Chg.kp (by assumption)); walk_at "kp"))
local macro_rules | `(tactic| walk_at "ext") => `(tactic| first | exact Ext.refl _ | assumption | (refine Ext.trans ?_ (by assumption); walk_at "ext"))

theorem filter_take {α : Type} {f : α → Dt} {k : α → Bool} {l : List α} {j : Nat} {x : α} (h : l[j]? = some x) : ((l.take (j + 1)).filter k).map f = if k x = true then ((l.take j).filter k).map f ++ [f x] else ((l.take j).filter k).map f := by
  rw [take_snoc' h, List.filter_append, List.map_append]
  cases e : k x <;> simp [e]
theorem strE {x y : Str} (h : PyData.strOk x = true) : ok 0 (.str x) = true := ok_str h
section
variable {P : Program} {w : World} {K : PySem.W.Frag} {mg : Str → Option Value} {base : Heap}
def R_law_bad_can (ds : List Dt) (mn : Mn) (S : WS) (es : List Dt) : Prop := ∃ (M : Mach) (G : Tbl) (m n : Nat), ds = [eM M] ∧ House M G m ∧ GoodW M G n S ∧ n ≤ 60 ∧ es = (canW M S).map eStp
theorem sc_law_bad_can : FnScope ["_law_world_here", "_law_machine_here", "_law_stand", "_law_note", "_law_found", "_law_here", "_law_option"] ["_law_world_here", "_law_machine_here"] (defScope s_law_bad_can) := ⟨rfl, rfl, rfl, by decide +kernel, rfl, by decide +kernel, by decide +kernel⟩
theorem ok_law_bad_can (T : Txt w K mg base) : Ok P w K mg base 3 ("_law_bad_can", none) ["_law_world_here", "_law_machine_here"] (SpLG K (TL K) R_law_bad_can) := by
  obtain ⟨⟨fd_law_state_behind, F_law_state_behind, b_law_state_behind⟩, k_law_state_behind⟩ := ok_law_state_behind (P := P) T
  refine ok_of (k := 2) T.f_law_bad_can sc_law_bad_can (fun vs H Q E h => ?_) (fun _ _ _ _ _ _ us hl => match us, hl with | [_, _], _ => rfl) (fun cdv A outer s H vs Q E hr h => ?_)
  · obtain ⟨B, p, rest, ds, mn, S, S', rfl, hi, _, _, ⟨M, G, m, n, rfl, _⟩, _⟩ := h
    rw [List.length_cons, hi.length]
    rfl
  · obtain ⟨B, p, rest, ds, mn, S, es, rfl, hi, hT, hL, ⟨M, G, m, n, rfl, hH, hg, hn, rfl⟩, hQ⟩ := h
    cases hi with | cons h1 hi =>
    cases hi
    rename_i vM
    refine ⟨_, (pss_cons (ps_set (i := 2) sc_law_bad_can.nd rfl (Or.inl rfl) (pe_dget (hu_of hr) (pv 0) pe_str (fun _ _ => rfl)))
      (pss_cons (ps_if (pt_cmpR (r := rEqD K) (op_eqD hr.units) (pv 2) (pe_tup (pa_cons pe_str pa_nil)) (nomark _)) (pss_one (ps_ret (pe_lc (own := [("_law_note", 3)]) rfl sc_law_bad_can.nd (pi_list (pe_dget (hu_of hr) (pv 0) pe_str (fun _ _ => rfl))) (blkOk_by (N := ["_law_world_here", "_law_machine_here", "_law_stand", "_law_note", "_law_found", "_law_here", "_law_option"]) (sc := defScope s_law_bad_can) (by decide +kernel)) (fun _ _ _ _ _ => (pg_name (i := 3) sc_law_bad_can.nd rfl (Or.inl rfl))) (fun _ _ _ _ _ => pts_nil) (fun _ _ _ _ _ => (pe_tup (pa_cons pe_str (pa_cons (pv 3) pa_nil))))))) pss_nil)
      (pss_cons (ps_set (i := 4) sc_law_bad_can.nd rfl (Or.inl rfl) (pe_lst (pa_cons (pe_tup (pa_cons pe_str pa_nil)) pa_nil)))
      (pss_cons (ps_if (pt_cmpR (r := rEqD K) (op_eqD hr.units) (pe_ix (r := rIx K) ix_seq (pv 2) pe_int (fun _ _ => rfl)) pe_str (nomark _)) (pss_cons (ps_set (i := 5) sc_law_bad_can.nd rfl (Or.inl rfl) (pe_ix (r := rIx K) ix_seq (pv 1) (pe_call F_law_state_behind (hr.mono (by decide)) (by rfl) T.g_law_state_behind k_law_state_behind b_law_state_behind .nil pass0 (pa_cons (pv 1) (pa_cons (pe_ix (r := rIx K) ix_seq (pv 2) pe_int (fun _ _ => rfl)) pa_nil))) (fun _ _ => rfl)))
        (pss_one (ps_set (i := 4) sc_law_bad_can.nd rfl (Or.inl rfl) (pe_op (r := rAddX K) op_addX (pv 4) (pe_lc (own := [("_law_option", 6)]) rfl sc_law_bad_can.nd (pi_range1 (by rfl) T.g_range (pa_cons (pe_callB (id := "len") (r := rLenX K) call_lenX (by rfl) T.g_len (by decide +kernel) (pa_cons (pv 5) pa_nil)) pa_nil)) (blkOk_by (N := ["_law_world_here", "_law_machine_here", "_law_stand", "_law_note", "_law_found", "_law_here", "_law_option"]) (sc := defScope s_law_bad_can) (by decide +kernel)) (fun _ _ _ _ _ => (pg_name (i := 6) sc_law_bad_can.nd rfl (Or.inl rfl))) (fun _ _ _ _ _ => pts_nil) (fun _ _ _ _ _ => (pe_tup (pa_cons pe_str (pa_cons (pv 6) pa_nil))))))))) pss_nil)
      (pss_cons (ps_set (i := 4) sc_law_bad_can.nd rfl (Or.inl rfl) (pe_op (r := rAddX K) op_addX (pv 4) (pe_ifExp (pt_cmpR (r := rInX K false) (op_inX (u65 hr)) (pe_ix (r := rIx K) ix_seq (pv 2) pe_int (fun _ _ => rfl)) (pe_tup (pa_cons pe_str (pa_cons pe_str pa_nil))) (by with_unfolding_all rfl)) (pe_lst (pa_cons (pe_tup (pa_cons pe_str pa_nil)) pa_nil)) (pe_lst pa_nil))))
      (pss_one (ps_ret (pe_op (r := rAddX K) op_addX (pv 4) (pe_ifExp (pt_cmpR (r := rEqD K) (op_eqD hr.units) (pe_ix (r := rIx K) ix_seq (pv 2) pe_int (fun _ _ => rfl)) pe_str (nomark _)) (pe_lst (pa_cons (pe_tup (pa_cons pe_str pa_nil)) pa_nil)) (pe_lst pa_nil)))))))))), ?_⟩
    try dsimp only [cxOf, Cx.nox, Cx.wish]
    refine rd_start [some (.ref p), some vM, none, none, none, none, none] ?_
    have hls := hg.ls
    refine q_set (K := K) (ed_stand ev_v hL) fun y H1 e1 hy0 => ?_
    have hy : Im K H1 y (eSg S.stand) := hy0
    have hL1 := hL.to e1
    refine rd_start' [some (.ref p), some vM, some y, none, none, none, none] ?_
    refine q_if (k := decide (S.stand = .off)) (et_test (ed_op (ed_v hy) (ed_tup (ea_cons ed_str ea_nil) (by simp)) (rd_eq (n := 3) (m := 3) ok_eSg (ok_eSg (s := .off)) ?_))) (fun q H2 e2 => ?_) fun q H2 e2 => ?_
    · rw [decide_eq_true_iff]
      exact (eSg_inj (b := .off)).symm
    · have hs : S.stand = .off := of_decide_eq_true q
      have ec : canW M S = S.shelf.map .boot := by unfold canW; rw [hs]
      rw [ec] at hQ
      have ee : (fun j => ((S.shelf.take j).map fun t => eStp (.boot t))) (S.shelf.map eNt).length = (S.shelf.map .boot).map eStp := by
        show (S.shelf.take (S.shelf.map eNt).length).map _ = _
        rw [List.length_map, List.take_length, List.map_map]
        rfl
      rw [← ee] at hQ
      refine st_retN (en_lcL (em_shelf ev_v (hL1.to e2)).l gm_name (fun j => (S.shelf.take j).map fun t => eStp (.boot t)) rfl (fun j hj => ?_) fun j v d H' e3 hd hv => ?_) fun l H3 e3 hn hl => hQ l H3 (e1.trans (e2.trans e3)) (e1.free (e2.free hn)) hl
      · have hj : j < (S.shelf.map eNt).length := hj
        rw [List.length_map, List.length_take]
        omega
      · have hd : (S.shelf.map eNt)[j]? = some d := hd
        rw [List.getElem?_map] at hd
        obtain ⟨t, ht, rfl⟩ := Option.map_eq_some_iff.mp hd
        exact lc_each rfl (take_map ht) (ed_tup (ea_cons ed_str (ea_cons (ed_v hv) ea_nil)) (by simp))
    · have hs : S.stand ≠ .off := of_decide_eq_false q
      have hL2 := hL1.to e2
      refine q_setN (K := K) (en_lst (ea_cons (ed_tup (ea_cons ed_str ea_nil) (by simp)) ea_nil) (by simp)) fun f H3 e3 nf hf0 => ?_
      have hf : LsM K H3 f [eStp .cut] := hf0
      refine rd_start' [some (.ref p), some vM, some y, none, some (.ref f), none, none] ?_
      have tail : ∀ (g : Addr) (c : Option V) (d : Option V) H4 (base : List Stp) (k1 k2 : Bool), Ext H3 H4 → LsM K H4 g (base.map eStp) → base.length ≤ 1000 → k1 = decide (keyG S.stand = "sealed" ∨ keyG S.stand = "ready") → k2 = decide (keyG S.stand = "bare") → canW M S = base ++ ((if k1 = true then [Stp.turn] else []) ++ (if k2 = true then [Stp.put] else [])) →
          tSeq (tAsg (tOp (rAddX K) (tVar 4) (tIf (tTest (tOp (rInX K false) (tOp (rIx K) (tVar 2) (tC (V.int 0))) (tTup (tCons (tC (V.str "sealed")) (tCons (tC (V.str "ready")) tNil))))) (tLst (tCons (tTup (tCons (tC (V.str "turn")) tNil)) tNil)) (tLst tNil))) (gName 4))
            (tRet (tOp (rAddX K) (tVar 4) (tIf (tTest (tOp (rEqD K) (tOp (rIx K) (tVar 2) (tC (V.int 0))) (tC (V.str "bare")))) (tLst (tCons (tTup (tCons (tC (V.str "seal")) tNil)) tNil)) (tLst tNil))))
            { nx := fun _ H' => Q .non H', rt := Q } [some (.ref p), some vM, some y, none, some (.ref g), c, d] H4 := by
        intro g c d H4 base k1 k2 e4 hg4 hb hk1 hk2 hcan
        refine q_setN (K := K) (ds := base.map eStp ++ (if k1 = true then [eStp .turn] else [])) (en_catM (em_v hg4) (el_if (k := k1) (et_test (ed_op (ed_keyG (ed_v hy)) (ed_tup (ea_cons ed_str (ea_cons ed_str ea_nil)) (by simp)) (rd_inT (n := 0) (m := 0) (strE (y := "") (keyG_ok _)) ?_ ?_))) (fun q1 => ?_) fun q1 => ?_).em ?_) fun g2 H5 e5 ng2 hg5 => ?_
        · intro e he
          simp only [List.mem_cons, List.not_mem_nil, or_false] at he
          rcases he with rfl | rfl <;> exact ok_str (by decide +kernel)
        · rw [hk1, decide_eq_true_iff]
          simp only [List.mem_cons, List.not_mem_nil, or_false, Dt.str.injEq]
        · rw [if_pos q1]
          exact en_lst (ea_cons (ed_tup (ea_cons ed_str ea_nil) (by simp)) ea_nil) (by simp)
        · rw [if_neg (by rw [q1]; exact Bool.false_ne_true)]
          exact en_lst ea_nil (by simp)
        · rw [List.length_map]
          split <;> simp <;> omega
        · refine rd_start' [some (.ref p), some vM, some y, none, some (.ref g2), c, d] ?_
          have ee : (canW M S).map eStp = base.map eStp ++ (if k1 = true then [eStp .turn] else []) ++ (if k2 = true then [eStp .put] else []) := by
            rw [hcan]
            cases k1 <;> cases k2 <;> simp
          rw [ee] at hQ
          refine st_retN (K := K) (en_catM (em_v hg5) (el_if (k := k2) (et_keyG (ed_v hy) (by decide +kernel) hk2.symm) (fun q1 => ?_) fun q1 => ?_).em ?_) fun l H6 e6 nl hl => hQ l H6 (by walk_at "ext") (e1.free (e2.free (e3.free (e4.free (e5.free nl))))) hl
          · rw [if_pos q1]
            exact en_lst (ea_cons (ed_tup (ea_cons ed_str ea_nil) (by simp)) ea_nil) (by simp)
          · rw [if_neg (by rw [q1]; exact Bool.false_ne_true)]
            exact en_lst ea_nil (by simp)
          · rw [List.length_append, List.length_map]
            split <;> split <;> simp <;> omega
      by_cases hch : ∃ l, S.stand = .choice l
      · obtain ⟨l, hl⟩ := hch
        have hsg := hg.sg
        rw [hl] at hsg hy
        obtain ⟨⟨s, hgo⟩, hz⟩ : LvN M n l := hsg
        have hsl := go_lt hH (by have := hH.ne; omega) hgo
        have hst : M[s]? = some M[s] := List.getElem?_eq_getElem hsl
        have hop : optsN M l = M[s].length := by
          unfold optsN
          rw [hgo, Option.bind_some, hst]
          rfl
        have hst2 := hH.st M[s] (List.getElem_mem hsl)
        refine q_do (et_keyG (ed_v hy) (by decide +kernel) (by rfl)) fun H4 e4 => ?_
        refine q_set (ed_op (ed_v h1) (ed_call (ea_cons (ed_v h1) (ea_cons (ed_op (ed_v hy) ed_int (rd_ix (by rfl))) ea_nil)) hT (by walk_at "kp") ⟨M, l, s, rfl, hgo, rfl⟩) (rd_ix (at_map hst))) fun z H5 e5 hz5 => ?_
        refine rd_start' [some (.ref p), some vM, some y, none, some (.ref f), some z, none] ?_
        refine st_setN (K := K) (en_catM (em_v (hf.to (e4.trans e5))) (en_lcR (n := M[s].length) (Ed.is (ed_lenT (ed_v hz5)) (by rw [List.length_map])) (by omega) gm_name (fun j => (List.range j).map fun o => eStp (.ask o)) rfl (fun j hj => by rw [List.length_map, List.length_range]; omega) fun j H6 e6 hj => lc_each rfl (by rw [List.range_succ, List.map_append]; rfl) (ed_tup (ea_cons ed_str (ea_cons ed_vi ea_nil)) (by simp))).em (by rw [List.length_map, List.length_range]; simp; omega)) fun g H6 e6 ng hg6 => ?_
        refine tail g _ _ H6 (.cut :: (List.range (optsN M l)).map .ask) (decide (keyG S.stand = "sealed" ∨ keyG S.stand = "ready")) (decide (keyG S.stand = "bare")) (by walk_at "ext") ?_ (by rw [hop]; simp; omega) rfl rfl ?_
        · rw [hop]
          simp only [List.map_cons, List.map_map]
          exact hg6
        · have q1 : decide (keyG S.stand = "sealed" ∨ keyG S.stand = "ready") = false := by
            rw [hl]
            exact (show decide (("choice" : Str) = "sealed" ∨ ("choice" : Str) = "ready") = false by decide +kernel)
          have q2 : decide (keyG S.stand = "bare") = false := by
            rw [hl]
            exact (show decide (("choice" : Str) = "bare") = false by decide +kernel)
          rw [q1, q2]
          unfold canW
          rw [hl]
          simp
      · have hk : decide (keyG S.stand = "choice") = false := by
          cases hs2 : S.stand with
          | choice l => exact absurd ⟨l, hs2⟩ hch
          | off => exact absurd hs2 hs
          | mute => exact (show decide (("mute" : Str) = "choice") = false by decide +kernel)
          | ready _ _ => exact (show decide (("ready" : Str) = "choice") = false by decide +kernel)
          | laid _ => exact (show decide (("sealed" : Str) = "choice") = false by decide +kernel)
          | bare _ _ => exact (show decide (("bare" : Str) = "choice") = false by decide +kernel)
        refine q_skip (et_keyG (ed_v hy) (by decide +kernel) hk) fun H4 e4 => ?_
        refine tail f _ _ H4 [.cut] (decide (keyG S.stand = "sealed" ∨ keyG S.stand = "ready")) (decide (keyG S.stand = "bare")) e4 (hf.to e4) (by simp) rfl rfl ?_
        unfold canW
        cases hs2 : S.stand with
        | choice l => exact absurd ⟨l, hs2⟩ hch
        | off => exact absurd hs2 hs
        | mute => rfl
        | ready _ _ => rfl
        | laid _ => rfl
        | bare _ _ => rfl
end
end K29
set_option Elab.async false
set_option linter.all false
set_option maxRecDepth 100000
set_option maxHeartbeats 4000000
/-! the law's world: harm; a new one -/
namespace K29
open PySem PySem.Spec PyProof.Rows L2
local macro_rules | `(tactic| walk_at "kp") => `(tactic| first | exact Kp.refl _ | assumption | exact Chg.kp (by assumption) | (refine Kp.trans ?_ (Chg.kp (by assumption)); walk_at "kp"))
local macro_rules | `(tactic| walk_at "ext") => `(tactic| first | exact Ext.refl _ | assumption | (refine Ext.trans ?_ (by assumption); walk_at "ext"))

theorem alg_self (a : List (Nat × Str)) : alg a a = true := by
  unfold alg
  simp
theorem told_okT {M : Mach} {G : Tbl} {m n : Nat} {l : Life} (h : House M G m) (hl : LvN M n l) : TlOk (told M G l) := by
  obtain ⟨⟨s, hs⟩, _⟩ := hl
  exact told_ok h hs _ (Nat.le_refl _)
/-- no two of the first j do -/
def NoTwo (M : Mach) (G : Tbl) (ls : List Life) (j : Nat) : Prop := ∀ i i' a b, i < j → i' < i → ls[i]? = some a → ls[i']? = some b → alg (told M G a) (told M G b) = true
theorem noTwo_all {M : Mach} {G : Tbl} {S : WS} (h : NoTwo M G S.spoken S.spoken.length) : ¬ TwoW M G S := by
  rintro ⟨a, ha, b, hb, e⟩
  obtain ⟨i, hi, ei⟩ := List.mem_iff_getElem.mp ha
  obtain ⟨j, hj, ej⟩ := List.mem_iff_getElem.mp hb
  have ei2 : S.spoken[i]? = some a := by rw [List.getElem?_eq_getElem hi, ei]
  have ej2 : S.spoken[j]? = some b := by rw [List.getElem?_eq_getElem hj, ej]
  rcases Nat.lt_trichotomy i j with k | k | k
  · rw [alg_symm, h j i b a hj k ej2 ei2] at e
    cases e
  · subst k
    rw [ei2] at ej2
    cases ej2
    rw [alg_self] at e
    cases e
  · rw [h i j a b hi k ei2 ej2] at e
    cases e
section
variable {P : Program} {w : World} {K : PySem.W.Frag} {mg : Str → Option Value} {base : Heap}
def R_law_two (ds : List Dt) (mn : Mn) (S : WS) (φ : Prop) : Prop := ∃ (M : Mach) (G : Tbl) (m n : Nat), ds = [eM M, eT G] ∧ House M G m ∧ GoodW M G n S ∧ n ≤ 60 ∧ φ = ¬ TwoW M G S
theorem sc_law_two : FnScope ["_law_world_here", "_law_machine_here", "_law_table_here", "_law_told", "_law_life", "_law_at", "_law_before"] ["_law_world_here", "_law_machine_here", "_law_table_here"] (defScope s_law_two) := ⟨rfl, rfl, rfl, by decide +kernel, rfl, by decide +kernel, by decide +kernel⟩
theorem ok_law_two (T : Txt w K mg base) : Ok P w K mg base 3 ("_law_two", none) ["_law_world_here", "_law_machine_here", "_law_table_here"] (SpLN K (TL K) R_law_two) := by
  obtain ⟨⟨fd_law_spell, F_law_spell, b_law_spell⟩, k_law_spell⟩ := ok_law_spell (P := P) T
  obtain ⟨⟨fd_law_along, F_law_along, b_law_along⟩, k_law_along⟩ := ok_law_along (P := P) T
  refine ok_of (k := 2) T.f_law_two sc_law_two (fun vs H Q E h => ?_) (fun _ _ _ _ _ _ us hl => match us, hl with | [_, _, _], _ => rfl) (fun cdv A outer s H vs Q E hr h => ?_)
  · obtain ⟨B, p, rest, ds, mn, S, S', rfl, hi, _, _, ⟨M, G, m, n, rfl, _⟩, _⟩ := h
    rw [List.length_cons, hi.length]
    rfl
  · obtain ⟨B, p, rest, ds, mn, S, φ, rfl, hi, hT, hL, ⟨M, G, m, n, rfl, hH, hg, hn, rfl⟩, hQ⟩ := h
    cases hi with | cons h1 hi => cases hi with | cons h2 hi =>
    cases hi
    rename_i vM vG
    refine ⟨_, (pss_cons (ps_setLc (i := 3) (own := [("_law_life", 4)]) rfl sc_law_two.nd rfl rfl (sw_true rfl rfl rfl (by decide +kernel)) (pi_list (pe_dget (hu_of hr) (pv 0) pe_str (fun _ _ => rfl))) (blkOk_by (N := ["_law_world_here", "_law_machine_here", "_law_table_here", "_law_told", "_law_life", "_law_at", "_law_before"]) (sc := defScope s_law_two) (by decide +kernel)) (fun _ _ _ _ _ => (pg_name (i := 4) sc_law_two.nd rfl (Or.inl rfl))) (fun _ _ _ _ _ => pts_nil) (fun _ _ _ _ _ => (pe_ix (r := rIx K) ix_seq (pe_call F_law_spell (hr.mono (by decide)) (by rfl) T.g_law_spell k_law_spell b_law_spell .nil pass0 (pa_cons (pv 1) (pa_cons (pv 2) (pa_cons (pv 4) pa_nil)))) pe_int (fun _ _ => rfl))))
      (pss_cons (ps_for PassesOwn.never rfl (pi_range1 (by rfl) T.g_range (pa_cons (pe_callB (id := "len") (r := rLenX K) call_lenX (by rfl) T.g_len (by decide +kernel) (pa_cons (pv 3) pa_nil)) pa_nil)) (pg_name (i := 5) sc_law_two.nd rfl (Or.inl rfl))
        (pss_one (ps_for PassesOwn.never rfl (pi_range1 (by rfl) T.g_range (pa_cons (pv 5) pa_nil)) (pg_name (i := 6) sc_law_two.nd rfl (Or.inl rfl))
          (pss_one (ps_if (pt_not (pt_val (pe_call F_law_along (hr.mono (by decide)) (by rfl) T.g_law_along k_law_along b_law_along .nil pass0 (pa_cons (pe_ix (r := rIx K) ix_seq (pv 3) (pv 5) (fun _ _ => rfl)) (pa_cons (pe_ix (r := rIx K) ix_seq (pv 3) (pv 6) (fun _ _ => rfl)) pa_nil))))) (pss_one (ps_ret (pe_tup (pa_cons (pe_ix (r := rIx K) ix_seq (pe_dget (hu_of hr) (pv 0) pe_str (fun _ _ => rfl)) (pv 6) (fun _ _ => rfl)) (pa_cons (pe_ix (r := rIx K) ix_seq (pe_dget (hu_of hr) (pv 0) pe_str (fun _ _ => rfl)) (pv 5) (fun _ _ => rfl)) pa_nil))))) pss_nil)))))
      (pss_one (ps_ret pe_non)))), ?_⟩
    try dsimp only [cxOf, Cx.nox, Cx.wish]
    refine rd_start [some (.ref p), some vM, some vG, none, none, none, none] ?_
    have hlp := hg.lp
    have hlen : (S.spoken.map eL).length = S.spoken.length := List.length_map ..
    have ee : (fun j => (S.spoken.take j).map fun l => eTl (told M G l)) (S.spoken.map eL).length = S.spoken.map fun l => eTl (told M G l) := by
      show (S.spoken.take (S.spoken.map eL).length).map _ = _
      rw [List.length_map, List.take_length]
    refine q_setN (K := K) (ds := S.spoken.map fun l => eTl (told M G l)) ?_ fun f H1 e1 nf hf => ?_
    · rw [← ee]
      refine en_lcL (em_spoken ev_v hL).l gm_name (fun j => (S.spoken.take j).map fun l => eTl (told M G l)) rfl (fun j hj => ?_) fun j v d H' e3 hd hv => ?_
      · have hj : j < (S.spoken.map eL).length := hj
        rw [List.length_map, List.length_take]
        omega
      · have hd : (S.spoken.map eL)[j]? = some d := hd
        rw [List.getElem?_map] at hd
        obtain ⟨l, ht, rfl⟩ := Option.map_eq_some_iff.mp hd
        obtain ⟨⟨⟨s, hs⟩, hz⟩, _⟩ := hg.sp l (List.mem_of_getElem? ht)
        exact lc_each rfl (take_map (f := fun l => eTl (told M G l)) ht) (ed_op (ed_call (ea_cons (ed_v h1) (ea_cons (ed_v h2) (ea_cons (ed_v hv) ea_nil))) hT (by walk_at "kp") ⟨M, G, m, l, s, rfl, hH, hs, by omega, rfl⟩) ed_int (rd_ix (by rfl)))
    · have hL1 := hL.to e1
      refine rd_start' [some (.ref p), some vM, some vG, some (.ref f), none, none, none] ?_
      have hfl : ((S.spoken.map fun l => eTl (told M G l)).length : Int) = (S.spoken.length : Int) := by rw [List.length_map]
      refine q_seq (st_forR1 (ed_lenL (el_v hf)) (by omega) (by omega) (fun j σ' H' => ∃ a b, σ' = [some (.ref p), some vM, some vG, some (.ref f), none, a, b] ∧ Ext H1 H' ∧ NoTwo M G S.spoken j) (fun H2 e2 => ⟨none, none, rfl, e2, fun i i' a b hi => absurd hi (Nat.not_lt_zero _)⟩) ?_ ?_)
      · rintro j σ' H' hj ⟨a, b, rfl, e2, hno⟩
        have hj2 : j < S.spoken.length := by
          rw [hfl] at hj
          omega
        refine g_nm [some (.ref p), some vM, some vG, some (.ref f), none, some (.int (j : Nat)), b] ?_
        refine st_forR1 (K := K) (ed_vi (n := (j : Nat))) (by omega) (by omega) (fun i σ' H' => ∃ b, σ' = [some (.ref p), some vM, some vG, some (.ref f), none, some (.int (j : Nat)), b] ∧ Ext H1 H' ∧ ∀ i' < i, ∀ a b, S.spoken[j]? = some a → S.spoken[i']? = some b → alg (told M G a) (told M G b) = true) (fun H3 e3 => ⟨b, rfl, e2.trans e3, fun i' hi => absurd hi (Nat.not_lt_zero _)⟩) ?_ ?_
        · rintro i σ' H3 hi ⟨b, rfl, e3, hin⟩
          have hi2 : i < j := by omega
          have hsj : S.spoken[j]? = some S.spoken[j] := List.getElem?_eq_getElem hj2
          have hsi : S.spoken[i]? = some (S.spoken[i]'(by omega)) := List.getElem?_eq_getElem _
          refine g_nm [some (.ref p), some vM, some vG, some (.ref f), none, some (.int (j : Nat)), some (.int (i : Nat))] ?_
          have okj := told_okT hH (hg.sp _ (List.getElem_mem hj2)).1
          have oki := told_okT hH (hg.sp _ (List.getElem_mem (show i < S.spoken.length by omega))).1
          refine st_if (k := !(alg (told M G S.spoken[j]) (told M G (S.spoken[i]'(by omega))))) (EdT.is (et_not (et_B (ed_call (ea_cons (ed_ixL (el_v (hf.to e3)) ed_vi (at_map (f := fun l => eTl (told M G l)) hsj)) (ea_cons (ed_ixL (el_v (hf.to e3)) ed_vi (at_map (f := fun l => eTl (told M G l)) hsi)) ea_nil)) hT (by walk_at "kp") ⟨_, _, rfl, okj, oki, rfl⟩))) (by rw [lalg_eq])) (fun q H4 e4 => ?_) fun q H4 e4 => ?_
          · have hL4 := hL1.to (e3.trans e4)
            refine st_ret (ed_tup (ea_cons (ed_ixL (em_spoken ev_v hL4).l ed_vi (at_map (f := eL) hsi)) (ea_cons (ed_ixL (em_spoken ev_v hL4).l ed_vi (at_map (f := eL) hsj)) ea_nil)) (by simp)) fun v H5 e5 hv => hQ v H5 (e1.trans (e3.trans (e4.trans e5))) ?_
            cases hv
            constructor
            · intro z
              cases z
            · intro z
              refine absurd ⟨S.spoken[j], List.getElem_mem hj2, S.spoken[i]'(by omega), List.getElem_mem _, ?_⟩ z
              simpa using q
          · refine ⟨_, rfl, e3.trans e4, fun i' hi' a b ha hb => ?_⟩
            rcases Nat.lt_succ_iff_lt_or_eq.mp hi' with h | h
            · exact hin i' h a b ha hb
            · subst h
              rw [hsj] at ha
              rw [hsi] at hb
              cases ha
              cases hb
              simpa using q
        · rintro σ' H3 ⟨b, rfl, e3, hin⟩
          refine ⟨_, _, rfl, e3, fun i i' a b hi hi' ha hb => ?_⟩
          rcases Nat.lt_succ_iff_lt_or_eq.mp hi with h | h
          · exact hno i i' a b h hi' ha hb
          · subst h
            exact hin i' (by simpa using hi') a b ha hb
      · rintro σ' H' ⟨a, b, rfl, e2, hno⟩
        have e7 : ((S.spoken.map fun l => eTl (told M G l)).length : Int).toNat = S.spoken.length := by
          rw [hfl]
          omega
        rw [e7] at hno
        dsimp only
        exact st_ret (K := K) ed_non fun v H3 e3 hv => hQ v H3 (e1.trans (e2.trans e3)) (by cases hv; exact ⟨fun _ => noTwo_all hno, fun _ => rfl⟩)
def R_law_bad_harm (ds : List Dt) (mn : Mn) (S : WS) (d : Dt) : Prop := ∃ (M : Mach) (G : Tbl) (m n : Nat), ds = [eM M, eT G] ∧ House M G m ∧ GoodW M G n S ∧ n ≤ 60 ∧ d = eW (harmW mn M G S)
theorem sc_law_bad_harm : FnScope ["_law_world_here", "_law_machine_here", "_law_table_here", "_law_note"] ["_law_world_here", "_law_machine_here", "_law_table_here"] (defScope s_law_bad_harm) := ⟨rfl, rfl, rfl, by decide +kernel, rfl, by decide +kernel, by decide +kernel⟩
theorem ok_law_bad_harm (T : Txt w K mg base) : Ok P w K mg base 4 ("_law_bad_harm", none) ["_law_world_here", "_law_machine_here", "_law_table_here"] (SpLF K (TL K) R_law_bad_harm) := by
  obtain ⟨⟨fd_law_two, F_law_two, b_law_two⟩, k_law_two⟩ := ok_law_two (P := P) T
  obtain ⟨⟨fd_law_bad_fits, F_law_bad_fits, b_law_bad_fits⟩, k_law_bad_fits⟩ := ok_law_bad_fits (P := P) T
  refine ok_of (k := 3) T.f_law_bad_harm sc_law_bad_harm (fun vs H Q E h => ?_) (fun _ _ _ _ _ _ us hl => match us, hl with | [_, _, _], _ => rfl) (fun cdv A outer s H vs Q E hr h => ?_)
  · obtain ⟨B, p, rest, ds, mn, S, S', rfl, hi, _, _, ⟨M, G, m, n, rfl, _⟩, _⟩ := h
    rw [List.length_cons, hi.length]
    rfl
  · obtain ⟨B, p, rest, ds, mn, S, d, rfl, hi, hT, hL, ⟨M, G, m, n, rfl, hH, hg, hn, rfl⟩, hQ⟩ := h
    cases hi with | cons h1 hi => cases hi with | cons h2 hi =>
    cases hi
    rename_i vM vG
    refine ⟨_, (pss_cons (ps_if (pt_cmp (pc_notN (pe_call F_law_two (hr.mono (by decide)) (by rfl) T.g_law_two k_law_two b_law_two .nil pass0 (pa_cons (pv 0) (pa_cons (pv 1) (pa_cons (pv 2) pa_nil)))))) (pss_one (ps_ret pe_str)) pss_nil)
      (pss_one (ps_ret (pe_ifExp (pt_cmpR (r := rEqD K) (op_eqD hr.units) (pe_lc (own := [("_law_note", 3)]) rfl sc_law_bad_harm.nd (pi_list (pe_dget (hu_of hr) (pv 0) pe_str (fun _ _ => rfl))) (blkOk_by (N := ["_law_world_here", "_law_machine_here", "_law_table_here", "_law_note"]) (sc := defScope s_law_bad_harm) (by decide +kernel)) (fun _ _ _ _ _ => (pg_name (i := 3) sc_law_bad_harm.nd rfl (Or.inl rfl))) (fun _ _ _ _ _ => (pts_one (pt_val (pe_call F_law_bad_fits (hr.mono (by decide)) (by rfl) T.g_law_bad_fits k_law_bad_fits b_law_bad_fits .nil pass0 (pa_cons (pv 0) (pa_cons (pv 3) pa_nil)))))) (fun _ _ _ _ _ => (pv 3))) (pe_lst pa_nil) (nomark _)) pe_str pe_non)))), ?_⟩
    try dsimp only [cxOf, Cx.nox, Cx.wish]
    refine rd_start [some (.ref p), some vM, some vG, none] ?_
    have hls := hg.ls
    by_cases htw : TwoW M G S
    · have eh : harmW mn M G S = some ("two lives" : Str) := by unfold harmW; rw [if_pos htw]
      rw [eh] at hQ
      refine q_do (et_B (ed_callLN (φ := ¬ TwoW M G S) ev_v hL (ea_cons (ed_v h1) (ea_cons (ed_v h2) ea_nil)) hT (by walk_at "kp") ⟨M, G, m, n, rfl, hH, hg, hn, rfl⟩ (by simp [htw]))) fun H1 e1 => ?_
      exact st_ret (K := K) ed_str fun v H2 e2 hv => hQ v H2 (e1.trans e2) hv
    · have eh : harmW mn M G S = if deadW mn S = true then some ("dead" : Str) else none := by unfold harmW; rw [if_neg htw]
      rw [eh] at hQ
      refine q_skip (et_B (ed_callLN (φ := ¬ TwoW M G S) ev_v hL (ea_cons (ed_v h1) (ea_cons (ed_v h2) ea_nil)) hT (by walk_at "kp") ⟨M, G, m, n, rfl, hH, hg, hn, rfl⟩ (by simp [htw]))) fun H1 e1 => ?_
      have hL1 := hL.to e1
      have ee : (fun j => ((S.shelf.take j).filter fun t => fitsW mn S.rd t).map eNt) (S.shelf.map eNt).length = (S.shelf.filter fun t => fitsW mn S.rd t).map eNt := by
        show ((S.shelf.take (S.shelf.map eNt).length).filter _).map _ = _
        rw [List.length_map, List.take_length]
      have comp : EdN K (tLc (iList K (tDGet (tVar 0) (tC (V.str "shelf")))) (gName 3) (tB (tCall (SpLF K (TL K) R_law_bad_fits) [] E0 (tCons (tVar 0) (tCons (tVar 3) tNil)))) (tVar 3) [3]) [some (.ref p), some vM, some vG, none] H1 ((S.shelf.filter fun t => fitsW mn S.rd t).map eNt) := by
        rw [← ee]
        refine en_lcL (em_shelf ev_v hL1).l gm_name (fun j => ((S.shelf.take j).filter fun t => fitsW mn S.rd t).map eNt) rfl (fun j hj => ?_) fun j v d H' e3 hd hv => ?_
        · have hj : j < (S.shelf.map eNt).length := hj
          rw [List.length_map]
          refine Nat.lt_of_le_of_lt (List.length_filter_le _ _) ?_
          rw [List.length_take]
          omega
        · have hd : (S.shelf.map eNt)[j]? = some d := hd
          rw [List.getElem?_map] at hd
          obtain ⟨t, ht, rfl⟩ := Option.map_eq_some_iff.mp hd
          exact lc_some (k := fitsW mn S.rd t) rfl (et_B (ed_callLF ev_v (hL1.to e3) (ea_cons (ed_v hv) ea_nil) hT (by walk_at "kp") ⟨t, rfl, rfl⟩)) (filter_take ht) fun _ => ed_v hv
      have hdead : deadW mn S = true ↔ (S.shelf.filter fun t => fitsW mn S.rd t).map eNt = [] := by
        unfold deadW
        rw [Bool.not_eq_true', ← Bool.not_eq_true, List.any_eq_true, List.map_eq_nil_iff, List.filter_eq_nil_iff]
        constructor
        · exact fun z t ht hf => z ⟨t, ht, hf⟩
        · rintro z ⟨t, ht, hf⟩
          exact z t ht hf
      refine st_ret (K := K) (ed_if (k := deadW mn S) (et_test (ed_eqLL (n := 2) (m := 0) comp.l (en_lst ea_nil (by simp)).l (fun e he => ?_) (fun e he => by cases he) hdead)) (fun q => ?_) fun q => ?_) fun v H2 e2 hv => hQ v H2 (e1.trans e2) hv
      · obtain ⟨t, _, rfl⟩ := List.mem_map.mp he
        exact ok_eNt
      · rw [if_pos q]
        exact ed_str
      · rw [if_neg (by rw [q]; exact Bool.false_ne_true)]
        exact ed_non
end
end K29
set_option Elab.async false
set_option linter.all false
set_option maxRecDepth 100000
set_option maxHeartbeats 4000000
/-! the law's search for the least harm -/
namespace K29
open PySem PySem.Spec PyProof.Rows L2
local macro_rules | `(tactic| walk_at "kp") => `(tactic| first | exact Kp.refl _ | assumption | exact Chg.kp (by assumption) | (refine Kp.trans ?_ (Chg.kp (by assumption)); walk_at "kp"))
local macro_rules | `(tactic| walk_at "ext") => `(tactic| first | exact Ext.refl _ | assumption | (refine Ext.trans ?_ (by assumption); walk_at "ext"))

/-- what comes by so many steps, never mute -/
inductive Rch (mn : Mn) (M : Mach) (G : Tbl) : Nat → WS → Prop
  | zero : Rch mn M G 0 WS.start
  | succ {k : Nat} {S : WS} {st : Stp} : Rch mn M G k S → st ∈ canW M S → (stepW mn M G S st).stand ≠ .mute → Rch mn M G (k + 1) (stepW mn M G S st)
/-- the fewest steps to harm, none up to so many -/
def LeastH (mn : Mn) (M : Mach) (G : Tbl) (most : Nat) : Option Nat → Prop
  | some k => k ≤ most ∧ (∃ S, Rch mn M G k S ∧ harmW mn M G S ≠ none) ∧ ∀ j < k, ∀ S, Rch mn M G j S → harmW mn M G S = none
  | none => ∀ j ≤ most, ∀ S, Rch mn M G j S → harmW mn M G S = none
theorem leastH_one {mn : Mn} {M : Mach} {G : Tbl} {most : Nat} {a b : Option Nat} (h1 : LeastH mn M G most a) (h2 : LeastH mn M G most b) : a = b := by
  cases a with
  | none =>
    cases b with
    | none => rfl
    | some k =>
      obtain ⟨h3, ⟨S, h4, h5⟩, _⟩ := h2
      exact absurd (h1 k h3 S h4) h5
  | some j =>
    obtain ⟨h3, ⟨S, h4, h5⟩, h6⟩ := h1
    cases b with
    | none => exact absurd (h2 j h3 S h4) h5
    | some k =>
      obtain ⟨g3, ⟨S', g4, g5⟩, g6⟩ := h2
      rcases Nat.lt_trichotomy j k with z | z | z
      · exact absurd (g6 j z S h4) h5
      · rw [z]
      · exact absurd (h6 k z S' g4) g5
section
variable {mn : Mn} {M : Mach} {G : Tbl} {m n k : Nat} {S : WS}
theorem rch_good (h : House M G m) (r : Rch mn M G k S) : GoodW M G k S ∧ LateW mn S := by
  induction r with
  | zero => exact ⟨good_start, trivial⟩
  | succ r hc hm ih => exact ⟨step_good h ih.1 ih.2 hc, step_late ih.2⟩
theorem canW_len (h : House M G m) (g : GoodW M G n S) : (canW M S).length ≤ n + 3 := by
  unfold canW
  cases hs : S.stand with
  | off =>
    have := g.ls
    dsimp only
    rw [List.length_map]
    omega
  | mute => simp
  | choice l =>
    have hl : LvN M n l := by
      have := g.sg
      rw [hs] at this
      exact this
    obtain ⟨⟨s, hg⟩, _⟩ := hl
    have hsl := go_lt h (by have := h.ne; omega) hg
    have h2 := h.st M[s] (List.getElem_mem hsl)
    have e : optsN M l = M[s].length := by
      unfold optsN
      rw [hg, Option.bind_some, List.getElem?_eq_getElem hsl]
      rfl
    simp [e]
    omega
  | ready _ _ => simp
  | laid _ => simp
  | bare _ _ => simp
theorem optsN_len (h : House M G m) (g : GoodW M G n S) (k : n ≤ 6) : (canW M S).length ≤ 7 := by
  unfold canW
  cases hs : S.stand with
  | off =>
    have := g.ls
    dsimp only
    rw [List.length_map]
    omega
  | mute => simp
  | choice l =>
    have hl : LvN M n l := by
      have := g.sg
      rw [hs] at this
      exact this
    obtain ⟨⟨s, hg⟩, _⟩ := hl
    have hsl := go_lt h (by have := h.ne; omega) hg
    have h2 := h.st M[s] (List.getElem_mem hsl)
    have e : optsN M l = M[s].length := by
      unfold optsN
      rw [hg, Option.bind_some, List.getElem?_eq_getElem hsl]
      rfl
    simp [e]
    omega
  | ready _ _ => simp
  | laid _ => simp
  | bare _ _ => simp
/-- what came up to the s-th step of the i-th world -/
def Came (mn : Mn) (M : Mach) (G : Tbl) (Ss : List WS) (i s : Nat) (T : WS) : Prop := ∃ i' s' S st, (i' < i ∨ (i' = i ∧ s' < s)) ∧ Ss[i']? = some S ∧ (canW M S)[s']? = some st ∧ T = stepW mn M G S st ∧ T.stand ≠ .mute
theorem came_zero {Ss : List WS} {T : WS} : ¬ Came mn M G Ss 0 0 T := by
  rintro ⟨i', s', _, _, h, _⟩
  omega
theorem came_next {Ss : List WS} {i s : Nat} {T S : WS} {st : Stp} (hS : Ss[i]? = some S) (hst : (canW M S)[s]? = some st) : Came mn M G Ss i (s + 1) T ↔ Came mn M G Ss i s T ∨ (T = stepW mn M G S st ∧ T.stand ≠ .mute) := by
  constructor
  · rintro ⟨i', s', S', st', h, h1, h2, h3, h4⟩
    by_cases e : i' = i ∧ s' = s
    · obtain ⟨rfl, rfl⟩ := e
      rw [hS] at h1
      cases h1
      rw [hst] at h2
      cases h2
      exact .inr ⟨h3, h4⟩
    · exact .inl ⟨i', s', S', st', by omega, h1, h2, h3, h4⟩
  · rintro (⟨i', s', S', st', h, h1, h2, h3, h4⟩ | ⟨h3, h4⟩)
    · exact ⟨i', s', S', st', by omega, h1, h2, h3, h4⟩
    · exact ⟨i, s, S, st, by omega, hS, hst, h3, h4⟩
theorem came_done {Ss : List WS} {i : Nat} {T S : WS} (hS : Ss[i]? = some S) : Came mn M G Ss i (canW M S).length T ↔ Came mn M G Ss (i + 1) 0 T := by
  constructor
  · rintro ⟨i', s', S', st', h, h1, h2, h3, h4⟩
    exact ⟨i', s', S', st', by omega, h1, h2, h3, h4⟩
  · rintro ⟨i', s', S', st', h, h1, h2, h3, h4⟩
    refine ⟨i', s', S', st', ?_, h1, h2, h3, h4⟩
    by_cases e : i' = i
    · subst e
      rw [hS] at h1
      cases h1
      exact .inr ⟨rfl, (List.getElem?_eq_some_iff.mp h2).1⟩
    · omega
theorem came_rch {Ss : List WS} (h : ∀ S, S ∈ Ss ↔ Rch mn M G k S) {T : WS} : Came mn M G Ss Ss.length 0 T ↔ Rch mn M G (k + 1) T := by
  constructor
  · rintro ⟨i', s', S', st', _, h1, h2, rfl, h4⟩
    exact .succ ((h S').mp (List.mem_of_getElem? h1)) (List.mem_of_getElem? h2) h4
  · intro r
    cases r with
    | @succ _ S st r hc hm =>
      obtain ⟨i, hi, ei⟩ := List.mem_iff_getElem.mp ((h S).mpr r)
      obtain ⟨s, hs, es⟩ := List.mem_iff_getElem.mp hc
      exact ⟨i, s, S, st, .inl hi, by rw [List.getElem?_eq_getElem hi, ei], by rw [List.getElem?_eq_getElem hs, es], rfl, hm⟩
end
/-! ### rules -/
section
variable {K : PySem.W.Frag} {H H' H0 H1 H2 : Hp} {σ : L2.St} {v x y z : V} {a b c d : Dt} {ds es : List Dt} {te td tv ta tb : TE} {D : Ends} {tz : TS} {p q : Addr} {S : LS} {B : List Addr}
/-- over a new list of data, while the lists at A grow -/
theorem st_forN {tb : TS} {g : TG} (h : EdN K te σ H ds) (A : List Addr) (hA : ∀ b ∈ A, H b ≠ none) (Pv : Hp → Nat → L2.St → Hp → Prop) (h0 : ∀ H1, Ext H H1 → Pv H1 0 σ H1) (hk : ∀ H1 j σ' H', Pv H1 j σ' H' → Chg A H1 H')
    (hs : ∀ H1 j v d σ' H', Ext H H1 → ds[j]? = some d → Pv H1 j σ' H' → Im K H' v d → g v σ' H' fun σ2 H2 => tb { D with nx := Pv H1 (j + 1), ct := Pv H1 (j + 1), bk := D.nx } σ2 H2) (hd : ∀ H1 σ' H', Ext H H1 → Pv H1 ds.length σ' H' → D.nx σ' H') : tFor (iList K te) g tb D σ H := h H (Ext.refl H) _ fun a H1 e1 hn hv => by
  obtain ⟨xs, s1, s2⟩ := hv
  have hl := s2.length
  have ha : a ∉ A := fun z => hA a z hn
  have keep : ∀ H', Chg A H1 H' → H' a = some (.lst xs) := fun H' c => c.obj a _ ha s1 (by intro ps z; cases z)
  refine ⟨a, rfl, ⟨xs, .inl (.inl s1)⟩, for_list (K := K) (a := a) (xs := xs) (Pv H1) (h0 H1 e1) (fun j σ' H' _ p => .inl (.inl (keep H' (hk H1 j σ' H' p)))) (fun j x σ' H' hx p => ?_) fun σ' H' p => hd H1 σ' H' e1 (hl ▸ p)⟩
  obtain ⟨d, e, hd⟩ := s2.getv hx
  exact hs H1 j x d σ' H' e1 e p (hd.to (hk H1 j σ' H' p).kp)
/-- over a list of any values that stays -/
theorem st_forV {tb : TS} {g : TG} {l : Addr} {xs : List V} (h : EdV te σ H (.ref l)) (hl : H l = some (.lst xs)) (Pv : Nat → L2.St → Hp → Prop) (h0 : ∀ H1, Ext H H1 → Pv 0 σ H1) (hk : ∀ j σ' H', Pv j σ' H' → H' l = some (.lst xs))
    (hs : ∀ j v σ' H', xs[j]? = some v → Pv j σ' H' → g v σ' H' fun σ2 H2 => tb { D with nx := Pv (j + 1), ct := Pv (j + 1), bk := D.nx } σ2 H2) (hd : ∀ σ' H', Pv xs.length σ' H' → D.nx σ' H') : tFor (iList K te) g tb D σ H := h H (Ext.refl H) _ fun H1 e1 =>
  ⟨l, rfl, ⟨xs, .inl (.inl (e1.get hl))⟩, for_list (K := K) (a := l) (xs := xs) Pv (h0 H1 e1) (fun j σ' H' _ p => .inl (.inl (hk j σ' H' p))) (fun j x σ' H' hx p => hs j x σ' H' hx p) hd⟩
theorem q_appV {l : Addr} {xs : List V} (hl : H l = some (.lst xs)) (ha : EdV ta σ H (.ref l)) (h : EdV te σ H v) (hz : xs.length < 1000000) (k : ∀ H1, Chg [l] H H1 → H1 l = some (.lst (xs ++ [v])) → tz D σ H1) :
    tSeq (tDrop (tBM K "list" rAppend ta (tCons te tNil))) tz D σ H := ha H (Ext.refl H) _ fun H1 e1 => by
  refine ⟨Or.inl ⟨rfl, _, Or.inl (Or.inl (e1.get hl))⟩, ?_⟩
  refine h H1 e1 _ fun H2 e2 => ?_
  have b1 := (e1.trans e2).get hl
  exact ⟨l, xs, v, rfl, rfl, b1, Nat.lt_of_lt_of_le hz (by decide), k _ ((e1.trans e2).chg.trans (Chg.put b1)) upd_same⟩
theorem st_appV {l : Addr} {xs : List V} (hl : H l = some (.lst xs)) (ha : EdV ta σ H (.ref l)) (h : EdV te σ H v) (hz : xs.length < 1000000) (k : ∀ H1, Chg [l] H H1 → H1 l = some (.lst (xs ++ [v])) → D.nx σ H1) :
    tDrop (tBM K "list" rAppend ta (tCons te tNil)) D σ H := ha H (Ext.refl H) _ fun H1 e1 => by
  refine ⟨Or.inl ⟨rfl, _, Or.inl (Or.inl (e1.get hl))⟩, ?_⟩
  refine h H1 e1 _ fun H2 e2 => ?_
  have b1 := (e1.trans e2).get hl
  exact ⟨l, xs, v, rfl, rfl, b1, Nat.lt_of_lt_of_le hz (by decide), k _ ((e1.trans e2).chg.trans (Chg.put b1)) upd_same⟩
/-- one = dict(world) -/
theorem q_dict {i : Nat} (h : EdV ta σ H (.ref p)) (hL : LawB K B H p S) (k : ∀ q H1, Ext H H1 → H q = none → LawB K B H1 q S → tz D (σ.set i (some (.ref q))) H1) : tSeq (tAsg (tCB rDictX (tCons ta tNil)) (gName i)) tz D σ H := h H (Ext.refl H) _ fun H1 e1 => by
  obtain ⟨a, c, l, m, n, h0, h1, h2, h3, h4, h5, hb⟩ := hL.to e1
  refine ⟨p, _, rfl, h0, fun q hq => ?_⟩
  have e2 : Ext H1 (upd H1 q (.dK (lawKvs a (.ref l) c (.ref m) (.ref n) (.str S.manner)))) := Ext.new hq
  obtain ⟨b1, b2, b3, b4⟩ := hb
  exact k q _ (e1.trans e2) (e1.free hq) ⟨a, c, l, m, n, upd_same, h1.to e2.kp, h2.to e2, h3.to e2.kp, h4.to e2, h5.to e2, b1, b2, b3, liv_to b4 e2.kp⟩
/-- two new lists -/
theorem q_parLL {i j : Nat} (h1 : EdN K ta σ H ds) (h2 : EdN K tb σ H es) (k : ∀ l l' H1, Ext H H1 → H l = none → H l' = none → l ≠ l' → LsM K H1 l ds → LsM K H1 l' es → tz D ((σ.set i (some (.ref l))).set j (some (.ref l'))) H1) : tSeq (tPar i j (tCons ta (tCons tb tNil))) tz D σ H := h1 H (Ext.refl H) _ fun l H1 e1 hl hx => h2 H1 e1 _ fun l' H2 e2 hl' hy =>
  ⟨_, _, rfl, k l l' H2 (e1.trans e2) hl (e1.free hl') (hx.ne hl') (hx.to e2) hy⟩
/-- not among the dicts before -/
theorem et_ninLaw {l : Addr} {mn : Mn} {T : WS} {qs : List Addr} {Ts : List WS} {k : Bool} (h1 : EdV ta σ H (.ref q)) (h2 : EdV tb σ H (.ref l)) (hl : H l = some (.lst (qs.map V.ref))) (hq : LawB K B H q (lsOf mn T)) (ho : LSok (lsOf mn T)) (hp : Paired (fun r T' => LawB K B H r (lsOf mn T') ∧ LSok (lsOf mn T') ∧ q ≠ r) qs Ts) (hk : k = true ↔ T ∉ Ts) : EdT (tTest (tOp (rNinLaw K) ta tb)) σ H k := fun H1 e Q z =>
  h1 H1 e _ fun H2 e2 => h2 H2 (e.trans e2) _ fun H3 e3 => by
    have e4 := e.trans (e2.trans e3)
    have hps : Paired (fun r T' => LawAt K H3 r T' ∧ LSok T' ∧ q ≠ r) qs (Ts.map (lsOf mn)) := by
      clear hk hl
      induction hp with
      | nil => exact .nil
      | cons r _ ih => exact .cons ⟨(r.1.to e4).at, r.2.1, r.2.2⟩ ih
    refine ⟨q, l, lsOf mn T, qs, Ts.map (lsOf mn), rfl, rfl, e4.get hl, (hq.to e4).at, ho, hps, fun c hc => ?_⟩
    have ec : c = k := by
      rw [Bool.eq_iff_iff, hc, hk, List.mem_map]
      constructor
      · exact fun w m => w ⟨T, m, rfl⟩
      · rintro w ⟨T', m, eT⟩
        rw [lsOf_inj] at eT
        exact w (eT ▸ m)
    exact ⟨c, rfl, ec ▸ z H3 (e2.trans e3)⟩
theorem tp_cons {k : Str} {r : List (TE × TE)} {Q : List (V × V) → Hp → Prop} (h : tv σ H fun y H2 => tPairs r σ H2 fun ps H3 => Q ((V.str k, y) :: ps) H3) : tPairs ((tC (.str k), tv) :: r) σ H Q := h
end
theorem paired_app {α β : Type} {F : α → β → Prop} {x : α} {y : β} : ∀ {xs : List α} {ys : List β}, Paired F xs ys → F x y → Paired F (xs ++ [x]) (ys ++ [y])
  | _, _, .nil, h => .cons h .nil
  | _, _, .cons r t, h => .cons r (paired_app t h)
theorem paired_imp {α β : Type} {F G : α → β → Prop} (k : ∀ x y, F x y → G x y) : ∀ {xs : List α} {ys : List β}, Paired F xs ys → Paired G xs ys
  | _, _, .nil => .nil
  | _, _, .cons r t => .cons (k _ _ r) (paired_imp k t)
section
variable {P : Program} {w : World} {K : PySem.W.Frag} {mg : Str → Option Value} {base : Heap}
/-- a new world, its manner not yet said -/
def SpNew5 (K : PySem.W.Frag) : Sp := fun vs H Q _ => vs = [] ∧ ∀ (p : Addr) (H' : Hp) (a c : V) (l m n : Addr), Ext H H' → H p = none → H' p = some (.dK [(.inr "wheel", a), (.inr "shelf", .ref l), (.inr "stand", c), (.inr "heard", .ref m), (.inr "spoken", .ref n)]) →
  Im K H' a (eRd WS.start.rd) → LsM K H' l (WS.start.shelf.map eNt) → Im K H' c (eSg .off) → LsM K H' m [] → LsM K H' n [] → Q (.ref p) H'
theorem sc_law_world : FnScope [] [] (defScope s_law_world) := ⟨rfl, rfl, rfl, by decide +kernel, rfl, by decide +kernel, by decide +kernel⟩
theorem ok_law_world (T : Txt w K mg base) : Ok P w K mg base 1 ("_law_world", none) [] (SpNew5 K) := by
  refine ok_of (k := 0) T.f_law_world sc_law_world (fun vs H Q E h => ?_) (fun _ _ _ _ _ _ us hl => match us, hl with | [], _ => rfl) (fun cdv A outer s H vs Q E hr h => ?_)
  · obtain ⟨rfl, _⟩ := h
    rfl
  · obtain ⟨rfl, hQ⟩ := h
    refine ⟨_, (pss_one (ps_ret (pe_disp (pps_cons pe_str (pe_tup (pa_cons pe_int (pa_cons pe_non pa_nil))) (pps_cons pe_str (pe_lst (pa_cons (pe_tup (pa_cons pe_int (pa_cons pe_non (pa_cons (pe_tup pa_nil) (pa_cons pe_int pa_nil))))) pa_nil)) (pps_cons pe_str (pe_tup (pa_cons pe_str pa_nil)) (pps_cons pe_str (pe_lst pa_nil) (pps_cons pe_str (pe_lst pa_nil) pps_nil))))) (by rfl) (by rfl) (by simp) (by decide)))), ?_⟩
    try dsimp only [cxOf, Cx.nox, Cx.wish]
    refine rd_start [] ?_
    intro p hp
    have e0 : Ext H (upd H p (.dK [])) := Ext.new hp
    refine tp_cons ((ed_tup (K := K) (ea_cons ed_int (ea_cons ed_non ea_nil)) (by simp)) _ (Ext.refl _) _ fun a H1 e1 ha => ?_)
    refine tp_cons ((en_lst (K := K) (ea_cons (ed_tup (ea_cons ed_int (ea_cons ed_non (ea_cons (ed_tup ea_nil (by simp)) (ea_cons ed_int ea_nil)))) (by simp)) ea_nil) (by simp)) _ (Ext.refl _) _ fun l H2 e2 _ hl => ?_)
    refine tp_cons ((ed_tup (K := K) (ea_cons ed_str ea_nil) (by simp)) _ (Ext.refl _) _ fun c H3 e3 hc => ?_)
    refine tp_cons ((en_lst (K := K) ea_nil (by simp)) _ (Ext.refl _) _ fun m H4 e4 _ hm => ?_)
    refine tp_cons ((en_lst (K := K) ea_nil (by simp)) _ (Ext.refl _) _ fun n H5 e5 _ hn => ?_)
    have g0 : H5 p = some (.dK []) := (e1.trans (e2.trans (e3.trans (e4.trans e5)))).get upd_same
    have cg : Chg [p] H5 (upd H5 p (.dK [(.inr "wheel", a), (.inr "shelf", .ref l), (.inr "stand", c), (.inr "heard", .ref m), (.inr "spoken", .ref n)])) := Chg.put g0
    refine ⟨g0, [(.inr "wheel", a), (.inr "shelf", .ref l), (.inr "stand", c), (.inr "heard", .ref m), (.inr "spoken", .ref n)], rfl, by simp, ?_⟩
    have hl5 := hl.to (e3.trans (e4.trans e5))
    have hm5 := hm.to e5
    exact hQ p _ a c l m n (((e0.trans (e1.trans (e2.trans (e3.trans (e4.trans e5))))).chg.trans cg).new hp) hp upd_same (ha.to (((e2.trans (e3.trans (e4.trans e5))).kp).trans cg.kp)) (hl5.chg cg (hl5.ned g0)) (hc.to ((e4.trans e5).kp.trans cg.kp)) (hm5.chg cg (hm5.ned g0)) (hn.chg cg (hn.ned g0))
def SpNewW (K : PySem.W.Frag) : Sp := fun vs H Q _ => ∃ (mn : Mn) (v : V), vs = [v] ∧ Im K H v (.str mn.s) ∧ ∀ p H', Ext H H' → H p = none → LawB K [] H' p (lsOf mn WS.start) → Q (.ref p) H'
theorem sc_law_bad_world : FnScope ["_law_manner", "_law_world_here"] ["_law_manner"] (defScope s_law_bad_world) := ⟨rfl, rfl, rfl, by decide +kernel, rfl, by decide +kernel, by decide +kernel⟩
theorem ok_law_bad_world (T : Txt w K mg base) : Ok P w K mg base 2 ("_law_bad_world", none) ["_law_manner"] (SpNewW K) := by
  obtain ⟨⟨fd_law_world, F_law_world, b_law_world⟩, k_law_world⟩ := ok_law_world (P := P) T
  refine ok_of (k := 1) T.f_law_bad_world sc_law_bad_world (fun vs H Q E h => ?_) (fun _ _ _ _ _ _ us hl => match us, hl with | [_], _ => rfl) (fun cdv A outer s H vs Q E hr h => ?_)
  · obtain ⟨mn, v, rfl, _⟩ := h
    rfl
  · obtain ⟨mn, v, rfl, hv, hQ⟩ := h
    refine ⟨_, (pss_cons (ps_set (i := 1) sc_law_bad_world.nd rfl (Or.inl rfl) (pe_call0 F_law_world (hr.mono (by decide)) (by rfl) T.g_law_world k_law_world b_law_world .nil pass0))
      (pss_cons (ps_dput (hu_of hr) (pv 1) pe_str (pv 0) rfl)
      (pss_one (ps_ret (pv 1))))), ?_⟩
    try dsimp only [cxOf, Cx.nox, Cx.wish]
    refine rd_start [some v, none] ?_
    refine ⟨rfl, fun p H1 a c l m n e1 hp h0 ha hl hc hm hn => ?_⟩
    have hv1 := hv.to e1.kp
    cases hv1
    refine g_nm [some (.str mn.s), some (.ref p)] ?_
    have cg : Chg [p] H1 (upd H1 p (.dK (lawKvs a (.ref l) c (.ref m) (.ref n) (.str mn.s)))) := Chg.put h0
    refine ⟨.str mn.s, rfl, .ref p, rfl, p, _, rfl, DPut.k (k := .inr "manner") h0 (Nat.lt_of_lt_of_le (show 5 < 6 by decide) (by decide)), ?_⟩
    exact ⟨.ref p, rfl, hQ p _ ((e1.chg.trans cg).new hp) hp ⟨a, c, l, m, n, upd_same, ha.to cg.kp, hl.chg cg (hl.ned h0), hc.to cg.kp, hm.chg cg (hm.ned h0), hn.chg cg (hn.ned h0), List.not_mem_nil, List.not_mem_nil, List.not_mem_nil, fun b hb => by cases hb⟩⟩
end
end K29
set_option Elab.async false
set_option linter.all false
set_option maxRecDepth 100000
set_option maxHeartbeats 4000000
/-! the law's search for the least harm: the walk -/
namespace K29
open PySem PySem.Spec PyProof.Rows L2
local macro_rules | `(tactic| walk_at "kp") => `(tactic| first | exact Kp.refl _ | assumption | exact Chg.kp (by assumption) | (refine Kp.trans ?_ (Chg.kp (by assumption)); walk_at "kp"))
local macro_rules | `(tactic| walk_at "ext") => `(tactic| first | exact Ext.refl _ | assumption | (refine Ext.trans ?_ (by assumption); walk_at "ext"))

theorem paired_len {α β : Type} {F : α → β → Prop} {xs : List α} {ys : List β} (h : Paired F xs ys) : xs.length = ys.length := Paired.len h
theorem ref_at {ps : List Addr} {i : Nat} {v : V} (h : (ps.map V.ref)[i]? = some v) : ∃ p, ps[i]? = some p ∧ v = .ref p := by
  rw [List.getElem?_map] at h
  obtain ⟨p, hp, e⟩ := Option.map_eq_some_iff.mp h
  exact ⟨p, hp, e.symm⟩
theorem paired_mem {α β : Type} {F : α → β → Prop} : ∀ {xs : List α} {ys : List β} {x : α}, Paired F xs ys → x ∈ xs → ∃ y ∈ ys, F x y
  | _, _, _, .nil, h => by cases h
  | _, _, _, .cons r t, h => by
    rcases List.mem_cons.mp h with rfl | h
    · exact ⟨_, List.mem_cons_self .., r⟩
    · obtain ⟨y, h1, h2⟩ := paired_mem t h
      exact ⟨y, List.mem_cons_of_mem _ h1, h2⟩
section
variable {P : Program} {w : World} {K : PySem.W.Frag} {mg : Str → Option Value} {base : Heap}
def R_law_least (ds : List Dt) (d : Dt) : Prop := ∃ (M : Mach) (G : Tbl) (m : Nat) (mn : Mn) (most : Nat) (o : Option Nat), ds = [eM M, eT G, .str mn.s, eN most] ∧ House M G m ∧ most ≤ 6 ∧ LeastH mn M G most o ∧ d = eK o
theorem sc_law_least : FnScope ["_law_machine_here", "_law_table_here", "_law_manner", "_law_most", "_law_stands", "_law_many", "_law_world_here", "_law_later", "_law_seen", "_law_step", "_law_one"] ["_law_machine_here", "_law_table_here", "_law_manner", "_law_most"] (defScope s_law_least) := ⟨rfl, rfl, rfl, by decide +kernel, rfl, by decide +kernel, by decide +kernel⟩
theorem ok_law_least (T : Txt w K mg base) : Ok P w K mg base 8 ("_law_least", none) ["_law_machine_here", "_law_table_here", "_law_manner", "_law_most"] (SpF K (TL K) R_law_least) := by
  obtain ⟨⟨fd_law_bad_world, F_law_bad_world, b_law_bad_world⟩, k_law_bad_world⟩ := ok_law_bad_world (P := P) T
  obtain ⟨⟨fd_law_bad_harm, F_law_bad_harm, b_law_bad_harm⟩, k_law_bad_harm⟩ := ok_law_bad_harm (P := P) T
  obtain ⟨⟨fd_law_bad_can, F_law_bad_can, b_law_bad_can⟩, k_law_bad_can⟩ := ok_law_bad_can (P := P) T
  obtain ⟨⟨fd_law_bad_step, F_law_bad_step, b_law_bad_step⟩, k_law_bad_step⟩ := ok_law_bad_step (P := P) T
  refine ok_of (k := 7) T.f_law_least sc_law_least (fun vs H Q E h => ?_) (fun _ _ _ _ _ _ us hl => match us, hl with | [_, _, _, _], _ => rfl) (fun cdv A outer s H vs Q E hr h => ?_)
  · obtain ⟨ds, d, hi, _, ⟨M, G, m, mn, most, o, rfl, _⟩, _⟩ := h
    exact hi.length
  · obtain ⟨ds, d, hi, hT, ⟨M, G, m, mn, most, o, rfl, hH, hmost, ho, rfl⟩, hQ⟩ := h
    cases hi with | cons h1 hi => cases hi with | cons h2 hi => cases hi with | cons h3 hi => cases hi with | cons h4 hi =>
    cases hi
    rename_i vM vG vmn vmost
    refine ⟨_, (pss_cons (ps_set (i := 4) sc_law_least.nd rfl (Or.inl rfl) (pe_lst (pa_cons (pe_call F_law_bad_world (hr.mono (by decide)) (by rfl) T.g_law_bad_world k_law_bad_world b_law_bad_world .nil pass0 (pa_cons (pv 2) pa_nil)) pa_nil)))
      (pss_cons (ps_for PassesOwn.never rfl (pi_range1 (by rfl) T.g_range (pa_cons (pe_op (r := rAddX K) op_addX (pv 3) pe_int) pa_nil)) (pg_name (i := 5) sc_law_least.nd rfl (Or.inl rfl))
        (pss_cons (ps_if (pt_cmpR (r := rNeD K) (op_neD hr.units) (pe_lc (own := [("_law_world_here", 6)]) rfl sc_law_least.nd (pi_list (pv 4)) (blkOk_by (N := ["_law_machine_here", "_law_table_here", "_law_manner", "_law_most", "_law_stands", "_law_many", "_law_world_here", "_law_later", "_law_seen", "_law_step", "_law_one"]) (sc := defScope s_law_least) (by decide +kernel)) (fun _ _ _ _ _ => (pg_name (i := 6) sc_law_least.nd rfl (Or.inl rfl))) (fun _ _ _ _ _ => (pts_one (pt_cmp (pc_notN (pe_call F_law_bad_harm (hr.mono (by decide)) (by rfl) T.g_law_bad_harm k_law_bad_harm b_law_bad_harm .nil pass0 (pa_cons (pv 6) (pa_cons (pv 0) (pa_cons (pv 1) pa_nil)))))))) (fun _ _ _ _ _ => pe_int)) (pe_lst pa_nil) (nomark _)) (pss_one (ps_ret (pv 5))) pss_nil)
        (pss_cons (ps_par (i := 7) (j := 8) (by rfl) sc_law_least.nd rfl rfl (by decide) rfl rfl (pa_cons (pe_lst pa_nil) (pa_cons (pe_lst pa_nil) pa_nil)) (by rfl))
        (pss_cons (ps_for PassesOwn.never rfl (pi_list (pv 4)) (pg_name (i := 6) sc_law_least.nd rfl (Or.inl rfl))
          (pss_one (ps_for PassesOwn.never rfl (pi_list (pe_call F_law_bad_can (hr.mono (by decide)) (by rfl) T.g_law_bad_can k_law_bad_can b_law_bad_can .nil pass0 (pa_cons (pv 6) (pa_cons (pv 0) pa_nil)))) (pg_name (i := 9) sc_law_least.nd rfl (Or.inl rfl))
            (pss_cons (ps_set (i := 10) sc_law_least.nd rfl (Or.inl rfl) (pe_callTy call_dictX (by rfl) T.g_dict (by decide +kernel) (pa_cons (pv 6) pa_nil)))
            (pss_cons (ps_expr (pe_call F_law_bad_step (hr.mono (by decide)) (by rfl) T.g_law_bad_step k_law_bad_step b_law_bad_step .nil pass0 (pa_cons (pv 10) (pa_cons (pv 0) (pa_cons (pv 1) (pa_cons (pv 9) pa_nil))))))
            (pss_one (ps_if (PW.pt (pw_and (pt_cmpR (r := rNeD K) (op_neD hr.units) (pe_dget (hu_of hr) (pv 10) pe_str (fun _ _ => rfl)) (pe_tup (pa_cons pe_str pa_nil)) (nomark _)) (pw_and1 (pt_cmpR (r := rNinLaw K) (op_ninLaw (u80 hr)) (pv 10) (pv 8) (by with_unfolding_all rfl))))) (pss_cons (ps_expr (pe_bm PySem.F.plainAttrs_list PySem.F.slot_list_append PySem.F.type_list_append mt_append (pv 8) (pa_cons (pv 10) pa_nil)))
              (pss_one (ps_expr (pe_bm PySem.F.plainAttrs_list PySem.F.slot_list_append PySem.F.type_list_append mt_append (pv 7) (pa_cons (pv 10) pa_nil))))) pss_nil)))))))
        (pss_one (ps_set (i := 4) sc_law_least.nd rfl (Or.inl rfl) (pv 7)))))))
      (pss_one (ps_ret pe_non)))), ?_⟩
    try dsimp only [cxOf, Cx.nox, Cx.wish]
    refine rd_start [some vM, some vG, some vmn, some vmost, none, none, none, none, none, none, none] ?_
    refine ⟨vmn, rfl, mn, vmn, rfl, h3, fun p0 H1 e1 hp0 hL0 => ⟨by show 1 ≤ sizeLine; decide, fun L0 hLn => g_nm [some vM, some vG, some vmn, some vmost, some (.ref L0), none, none, none, none, none, none] ?_⟩⟩
    have eL : Ext H1 (upd H1 L0 (.lst [.ref p0])) := Ext.new hLn
    have hL0' := hL0.to eL
    have hlst0 : upd H1 L0 (.lst [.ref p0]) L0 = some (.lst (([p0] : List Addr).map V.ref)) := upd_same
    have eHL := e1.trans eL
    generalize upd H1 L0 (.lst [.ref p0]) = H2 at eL hL0' hlst0 eHL
    refine q_seq (st_forR1 (ed_op (ed_v h4) ed_int rd_addI) (by omega) (by omega) (fun j σ' H' => ∃ (L : Addr) (ps : List Addr) (Ss : List WS) (a b c d e f : Option V), σ' = [some vM, some vG, some vmn, some vmost, some (.ref L), a, b, c, d, e, f] ∧ Ext H H' ∧ H' L = some (.lst (ps.map V.ref)) ∧
      Paired (fun p S => ∃ B, LawB K B H' p (lsOf mn S)) ps Ss ∧ (∀ S, S ∈ Ss ↔ Rch mn M G j S) ∧ Ss.length ≤ 7 ^ j ∧ ∀ i < j, ∀ S, Rch mn M G i S → harmW mn M G S = none) ?_ ?_ ?_)
    · intro H3 e3
      refine ⟨L0, [p0], [WS.start], none, none, none, none, none, none, rfl, eHL.trans e3, e3.get hlst0, .cons ⟨_, hL0'.to e3⟩ .nil, fun S => ?_, Nat.le_refl _, fun i hi => absurd hi (Nat.not_lt_zero _)⟩
      rw [List.mem_singleton]
      constructor
      · rintro rfl
        exact .zero
      · intro r
        cases r
        rfl
    · rintro j σ' H3 hj ⟨L, ps, Ss, a, b, c, d, e, f, rfl, e3, hl, hps, hSs, hlen, hno⟩
      have hj6 : j ≤ 6 := by omega
      have hpow : Ss.length ≤ 117649 := Nat.le_trans hlen (Nat.le_trans (Nat.pow_le_pow_right (by decide) hj6) (by decide))
      have hpl := paired_len hps
      have hgood : ∀ S ∈ Ss, GoodW M G j S := fun S hS => (rch_good hH ((hSs S).mp hS)).1
      refine g_nm [some vM, some vG, some vmn, some vmost, some (.ref L), some (.int (j : Nat)), b, c, d, e, f] ?_
      have comp : EdN K (tLc (iList K (tVar 4)) (gName 6) (tB (tNotN (tCall (SpLF K (TL K) R_law_bad_harm) [] E0 (tCons (tVar 6) (tCons (tVar 0) (tCons (tVar 1) tNil)))))) (tC (V.int 1)) [6]) [some vM, some vG, some vmn, some vmost, some (.ref L), some (.int (j : Nat)), b, c, d, e, f] H3 ((Ss.filter fun S => (harmW mn M G S).isSome).map fun _ => Dt.int 1) := by
        have ee : (fun i => ((Ss.take i).filter fun S => (harmW mn M G S).isSome).map fun _ => Dt.int 1) (ps.map V.ref).length = (Ss.filter fun S => (harmW mn M G S).isSome).map fun _ => Dt.int 1 := by
          show ((Ss.take (ps.map V.ref).length).filter _).map _ = _
          rw [List.length_map, hpl, List.take_length]
        rw [← ee]
        refine en_lcV ev_v (.inl (.inl hl)) gm_name (fun i => ((Ss.take i).filter fun S => (harmW mn M G S).isSome).map fun _ => Dt.int 1) rfl (fun i hi => ?_) fun i v H' e4 hv => ?_
        · rw [List.length_map]
          refine Nat.lt_of_le_of_lt (List.length_filter_le _ _) ?_
          rw [List.length_take]
          omega
        · obtain ⟨p, hp, rfl⟩ := ref_at hv
          obtain ⟨S, hS, B, hLB⟩ := paired_get hps hp
          have hg := hgood S (List.mem_of_getElem? hS)
          exact lc_some (k := (harmW mn M G S).isSome) rfl (et_B (ed_notN (ed_callLF ev_v (hLB.to e4) (ea_cons (ed_v h1) (ea_cons (ed_v h2) ea_nil)) hT (by walk_at "kp") ⟨M, G, m, j, rfl, hH, hg, by omega, rfl⟩) (by cases harmW mn M G S <;> simp [eW]))) (filter_take (f := fun _ => Dt.int 1) hS) fun _ => ed_int
      by_cases hh : ∃ S ∈ Ss, harmW mn M G S ≠ none
      · refine q_do (et_test (ed_neLL (n := 0) (m := 0) comp.l (en_lst ea_nil (by simp)).l (fun e he => ?_) (fun e he => by cases he) ?_)) fun H4 e4 => ?_
        · obtain ⟨_, _, rfl⟩ := List.mem_map.mp he
          exact ok_int
        · obtain ⟨S, h5, h6⟩ := hh
          simp only [true_iff, Ne, List.map_eq_nil_iff, List.filter_eq_nil_iff]
          intro z
          have := z S h5
          cases q : harmW mn M G S with
          | none => exact h6 q
          | some x => rw [q] at this; exact this rfl
        · obtain ⟨S, h5, h6⟩ := hh
          have ho2 : LeastH mn M G most (some j) := ⟨by omega, ⟨S, (hSs S).mp h5, h6⟩, hno⟩
          have eo := leastH_one ho ho2
          subst eo
          exact st_ret (K := K) ed_vi fun v H5 e5 hv => hQ v H5 (e3.trans (e4.trans e5)) hv
      · have hnone : ∀ S, Rch mn M G j S → harmW mn M G S = none := fun S r => Classical.byContradiction fun z => hh ⟨S, (hSs S).mpr r, z⟩
        refine q_skip (et_test (ed_neLL (n := 0) (m := 0) comp.l (en_lst ea_nil (by simp)).l (fun e he => ?_) (fun e he => by cases he) ?_)) fun H4 e4 => ?_
        · obtain ⟨_, _, rfl⟩ := List.mem_map.mp he
          exact ok_int
        · simp only [Bool.false_eq_true, false_iff, Ne, Classical.not_not, List.map_eq_nil_iff, List.filter_eq_nil_iff]
          intro S hS
          rw [hnone S ((hSs S).mp hS)]
          simp
        refine q_parLL (en_lst (K := K) ea_nil (by simp)) (en_lst (K := K) ea_nil (by simp)) fun La Se H5 e5 nLa nSe hne hLa hSe => ?_
        refine rd_start' [some vM, some vG, some vmn, some vmost, some (.ref L), some (.int (j : Nat)), b, some (.ref La), some (.ref Se), e, f] ?_
        obtain ⟨xa, hLa, xa2⟩ := hLa
        cases xa2
        obtain ⟨xb, hSe, xb2⟩ := hSe
        cases xb2
        have hl5 := (e4.trans e5).get hl
        have hps4 : Paired (fun p S => ∃ B, LawB K B H4 p (lsOf mn S)) ps Ss := paired_imp (fun p S ⟨B, z⟩ => ⟨B, z.to e4⟩) hps
        have lBne : ∀ H', Ext H5 H' → ∀ b ∈ [La, Se], H' b ≠ none := fun H' e6 b hb => by
          rcases List.mem_cons.mp hb with rfl | hb
          · rw [e6.get hLa]; simp
          · rw [List.mem_singleton.mp hb, e6.get hSe]; simp
        have nB : ∀ b ∈ [La, Se], H4 b = none := fun b hb => by
          rcases List.mem_cons.mp hb with rfl | hb
          · exact nLa
          · rw [List.mem_singleton.mp hb]; exact nSe
        refine q_seq (st_forV ev_v hl5 (fun i σ' H' => ∃ (qs : List Addr) (Ts : List WS) (b e f : Option V), σ' = [some vM, some vG, some vmn, some vmost, some (.ref L), some (.int (j : Nat)), b, some (.ref La), some (.ref Se), e, f] ∧ Ext H4 H' ∧ H' La = some (.lst (qs.map V.ref)) ∧ H' Se = some (.lst (qs.map V.ref)) ∧
          Paired (fun q T => LawB K [La, Se] H' q (lsOf mn T)) qs Ts ∧ (∀ T, T ∈ Ts ↔ Came mn M G Ss i 0 T) ∧ Ts.length ≤ 7 * i) (fun H6 e6 => ⟨[], [], b, e, f, rfl, e5.trans e6, e6.get hLa, e6.get hSe, .nil, fun T => ⟨fun z => (by cases z), fun z => absurd z came_zero⟩, Nat.zero_le _⟩) ?_ ?_ ?_)
        · rintro i σ' H' ⟨qs, Ts, b, e, f, rfl, e6, _⟩
          exact (e4.trans e6).get hl
        · rintro i v σ' H6 hv ⟨qs, Ts, b, e, f, rfl, e6, hLa6, hSe6, hqs, hTs, hTl⟩
          obtain ⟨p, hp, rfl⟩ := ref_at hv
          obtain ⟨S, hS, B, hLB⟩ := paired_get hps4 hp
          have hSm := List.mem_of_getElem? hS
          have hg := hgood S hSm
          have hlate := (rch_good hH ((hSs S).mp hSm)).2
          have hcl := optsN_len hH hg hj6
          have hi := (List.getElem?_eq_some_iff.mp hS).1
          have lB6 : ∀ b ∈ [La, Se], H6 b ≠ none := fun b hb => by
            rcases List.mem_cons.mp hb with rfl | hb
            · rw [hLa6]; simp
            · rw [List.mem_singleton.mp hb, hSe6]; simp
          have hLS : LawB K [La, Se] H6 p (lsOf mn S) := hLB.ban e6 nB lB6
          have pne : ∀ b ∈ [La, Se], p ≠ b := fun b hb => hLB.ne (nB b hb)
          refine g_nm [some vM, some vG, some vmn, some vmost, some (.ref L), some (.int (j : Nat)), some (.ref p), some (.ref La), some (.ref Se), e, f] ?_
          refine st_forN (en_callLG ev_v hLS (ea_cons (ed_v h1) ea_nil) hT (by walk_at "kp") ⟨M, G, m, j, rfl, hH, hg, by omega, rfl⟩) [La, Se] lB6 (fun H7 s σ' H' => ∃ (qs : List Addr) (Ts : List WS) (e f : Option V), σ' = [some vM, some vG, some vmn, some vmost, some (.ref L), some (.int (j : Nat)), some (.ref p), some (.ref La), some (.ref Se), e, f] ∧ Ext H4 H' ∧ Chg [La, Se] H7 H' ∧ H' La = some (.lst (qs.map V.ref)) ∧ H' Se = some (.lst (qs.map V.ref)) ∧
            Paired (fun q T => LawB K [La, Se] H' q (lsOf mn T)) qs Ts ∧ (∀ T, T ∈ Ts ↔ Came mn M G Ss i s T) ∧ Ts.length ≤ 7 * i + s) (fun H7 e7 => ⟨qs, Ts, e, f, rfl, e6.trans e7, Chg.refl _ _, e7.get hLa6, e7.get hSe6, paired_imp (fun q T z => z.to e7) hqs, hTs, hTl⟩) ?_ ?_ ?_
          · rintro H7 s σ' H' ⟨qs, Ts, e, f, rfl, _, z, _⟩
            exact z
          · rintro H7 s v d σ' H8 e7 hd ⟨qs, Ts, e, f, rfl, e8, c8, hLa8, hSe8, hqs8, hTs8, hTl8⟩ hv
            rw [List.getElem?_map] at hd
            obtain ⟨st, hst, rfl⟩ := Option.map_eq_some_iff.mp hd
            have hsl := (List.getElem?_eq_some_iff.mp hst).1
            have hstm := List.mem_of_getElem? hst
            have lB8 : ∀ b ∈ [La, Se], H8 b ≠ none := fun b hb => by
              rcases List.mem_cons.mp hb with rfl | hb
              · rw [hLa8]; simp
              · rw [List.mem_singleton.mp hb, hSe8]; simp
            have hLS8 : LawB K [La, Se] H8 p (lsOf mn S) := hLB.ban e8 nB lB8
            refine g_nm [some vM, some vG, some vmn, some vmost, some (.ref L), some (.int (j : Nat)), some (.ref p), some (.ref La), some (.ref Se), some v, f] ?_
            refine q_dict ev_v hLS8 fun q H9 e9 nq hLq => ?_
            refine rd_start' [some vM, some vG, some vmn, some vmost, some (.ref L), some (.int (j : Nat)), some (.ref p), some (.ref La), some (.ref Se), some v, some (.ref q)] ?_
            refine q_callLW ev_v hLq (ea_cons (ed_v h1) (ea_cons (ed_v h2) (ea_cons (ed_v hv) ea_nil))) hT (by walk_at "kp") ⟨M, G, m, j, st, rfl, hH, hg, by omega, hstm, rfl⟩ fun Ha ca hLqa => ?_
            have e8a : Ext H8 Ha := (e9.chg.trans ca).new nq
            have e4a : Ext H4 Ha := e8.trans e8a
            have hgT := step_good hH hg hlate hstm
            generalize hT9 : stepW mn M G S st = T at hLqa hgT
            have hqsa : Paired (fun r T' => LawB K [La, Se] Ha r (lsOf mn T') ∧ LSok (lsOf mn T') ∧ q ≠ r) qs Ts := by
              have key : ∀ T' ∈ Ts, LSok (lsOf mn T') := fun T' hT' => by
                obtain ⟨i', s', S', st', _, w1, w2, w3, _⟩ := (hTs8 T').mp hT'
                have r' := rch_good hH ((hSs S').mp (List.mem_of_getElem? w1))
                rw [w3]
                exact lsOf_ok (step_good hH r'.1 r'.2 (List.mem_of_getElem? w2))
              have go : ∀ {qs : List Addr} {Ts : List WS}, Paired (fun q T => LawB K [La, Se] H8 q (lsOf mn T)) qs Ts → (∀ T' ∈ Ts, LSok (lsOf mn T')) → Paired (fun r T' => LawB K [La, Se] Ha r (lsOf mn T') ∧ LSok (lsOf mn T') ∧ q ≠ r) qs Ts := by
                intro qs Ts hp
                induction hp with
                | nil => exact fun _ => .nil
                | cons r _ ih => exact fun k => .cons ⟨r.to e8a, k _ (List.mem_cons_self ..), Ne.symm (r.ne nq)⟩ (ih fun T' h => k T' (List.mem_cons_of_mem _ h))
              exact go hqs8 key
            have hLaa := e8a.get hLa8
            have hSea := e8a.get hSe8
            have hnext := fun T' => came_next (mn := mn) (M := M) (G := G) (T := T') hS hst
            by_cases hin : T.stand ≠ .mute ∧ T ∉ Ts
            · refine st_do (EdT.is (et_and (k := true) (et_test (ed_op (ed_stand ev_v hLqa) (ed_tup (ea_cons ed_str ea_nil) (by simp)) (rd_ne (n := 3) (m := 3) ok_eSg (ok_eSg (s := .mute)) (by simp only [true_iff]; exact fun z => hin.1 ((eSg_inj (b := .mute)).mp z))))) fun _ => et_ninLaw (k := true) ev_v ev_v hSea hLqa (lsOf_ok hgT) hqsa (by simp [hin.2])) (by rfl)) fun Hb eb => ?_
              have hTl9 : qs.length < 1000000 := by
                have := paired_len hqs8
                omega
              refine q_appV (eb.get hSea) ev_v ev_v (by rw [List.length_map]; exact hTl9) fun Hc cc hSec => ?_
              have hLab := eb.get hLaa
              have hLac : Hc La = some (.lst (qs.map V.ref)) := cc.obj La _ (by simp [hne]) hLab (by intro ps z; cases z)
              refine st_appV hLac ev_v ev_v (by rw [List.length_map]; exact hTl9) fun Hd cd hLad => ?_
              have hSed : Hd Se = some (.lst (qs.map V.ref ++ [.ref q])) := cd.obj Se _ (by simp [Ne.symm hne]) hSec (by intro ps z; cases z)
              have cbd : Chg [La, Se] Ha Hd := (eb.chg.trans (cc.mono (by simp))).trans (cd.mono (by simp))
              have keepL : ∀ {r : Addr} {T' : WS}, LawB K [La, Se] Ha r (lsOf mn T') → LawB K [La, Se] Hd r (lsOf mn T') := fun {r T'} z => by
                refine z.chg cbd (fun zz => ?_) fun b hb => .inl hb
                have w1 := z.at
                obtain ⟨_, _, _, _, _, w0, _⟩ := w1
                rcases List.mem_cons.mp zz with rfl | zz
                · rw [hLaa] at w0; cases w0
                · rw [List.mem_singleton.mp zz, hSea] at w0; cases w0
              refine ⟨qs ++ [q], Ts ++ [T], _, _, rfl, ?_, (c8.trans e8a.chg).trans cbd, ?_, ?_, paired_app (paired_imp (fun r T' z => keepL z.1) hqsa) (keepL hLqa), fun T' => ?_, ?_⟩
              · exact (e4a.chg.trans cbd).ext nB
              · rw [hLad, List.map_append]
                rfl
              · rw [hSed, List.map_append]
                rfl
              · rw [hnext T', List.mem_append, hTs8 T', List.mem_singleton, hT9]
                constructor
                · rintro (z | z)
                  · exact .inl z
                  · exact .inr ⟨z, z ▸ hin.1⟩
                · rintro (z | ⟨z, _⟩)
                  · exact .inl z
                  · exact .inr z
              · rw [List.length_append]
                simp
                omega
            · have fin : ∀ Hb, Ext Ha Hb → ∃ (qs : List Addr) (Ts : List WS) (e f : Option V), [some vM, some vG, some vmn, some vmost, some (.ref L), some (.int (j : Nat)), some (.ref p), some (.ref La), some (.ref Se), some v, some (.ref q)] = [some vM, some vG, some vmn, some vmost, some (.ref L), some (.int (j : Nat)), some (.ref p), some (.ref La), some (.ref Se), e, f] ∧ Ext H4 Hb ∧ Chg [La, Se] H7 Hb ∧ Hb La = some (.lst (qs.map V.ref)) ∧ Hb Se = some (.lst (qs.map V.ref)) ∧
                  Paired (fun q T => LawB K [La, Se] Hb q (lsOf mn T)) qs Ts ∧ (∀ T, T ∈ Ts ↔ Came mn M G Ss i (s + 1) T) ∧ Ts.length ≤ 7 * i + (s + 1) := fun Hb eb => by
                refine ⟨qs, Ts, _, _, rfl, e4a.trans eb, (c8.trans e8a.chg).trans eb.chg, eb.get hLaa, eb.get hSea, paired_imp (fun r T' z => z.1.to eb) hqsa, fun T' => ?_, by omega⟩
                rw [hnext T', hTs8 T', hT9]
                constructor
                · exact .inl
                · rintro (z | ⟨z, z2⟩)
                  · exact z
                  · subst z
                    exact (hTs8 T').mp (Classical.byContradiction fun w => hin ⟨z2, w⟩)
              by_cases hmu : T.stand = .mute
              · refine st_skip (et_no (et_test (ed_op (ed_stand ev_v hLqa) (ed_tup (ea_cons ed_str ea_nil) (by simp)) (rd_ne (n := 3) (m := 3) ok_eSg (ok_eSg (s := .mute)) (by simp only [Bool.false_eq_true, false_iff, Ne, Classical.not_not]; exact (eSg_inj (b := .mute)).mpr hmu))))) fun Hb eb => fin Hb eb
              · have hmem : T ∈ Ts := Classical.byContradiction fun w => hin ⟨hmu, w⟩
                refine st_skip (EdT.is (et_and (k := true) (et_test (ed_op (ed_stand ev_v hLqa) (ed_tup (ea_cons ed_str ea_nil) (by simp)) (rd_ne (n := 3) (m := 3) ok_eSg (ok_eSg (s := .mute)) (by simp only [true_iff]; exact fun z => hmu ((eSg_inj (b := .mute)).mp z))))) fun _ => et_ninLaw (k := false) ev_v ev_v hSea hLqa (lsOf_ok hgT) hqsa (by simp [hmem])) (by rfl)) fun Hb eb => fin Hb eb
          · rintro H7 σ' H' e7 ⟨qs, Ts, e, f, rfl, e8, c8, hLa8, hSe8, hqs8, hTs8, hTl8⟩
            rw [List.length_map] at hTs8 hTl8
            exact ⟨qs, Ts, _, e, f, rfl, e8, hLa8, hSe8, hqs8, fun T => (hTs8 T).trans (came_done hS), by omega⟩
        · rintro σ' H6 ⟨qs, Ts, b, e, f, rfl, e6, hLa6, hSe6, hqs, hTs, hTl⟩
          rw [List.length_map, hpl] at hTs hTl
          refine ⟨.ref La, rfl, g_nm [some vM, some vG, some vmn, some vmost, some (.ref La), some (.int (j : Nat)), b, some (.ref La), some (.ref Se), e, f] ?_⟩
          refine ⟨La, qs, Ts, _, _, _, _, _, _, rfl, e3.trans (e4.trans e6), hLa6, paired_imp (fun q T z => ⟨_, z⟩) hqs, fun T => (hTs T).trans (came_rch hSs), ?_, fun i hi S r => ?_⟩
          · rw [Nat.pow_succ]
            omega
          · rcases Nat.lt_succ_iff_lt_or_eq.mp hi with z | z
            · exact hno i z S r
            · subst z
              exact hnone S r
    · rintro σ' H' ⟨L, ps, Ss, a, b, c, d, e, f, rfl, e3, hl, hps, hSs, hlen, hno⟩
      have en : ((most : Int) + 1).toNat = most + 1 := by omega
      rw [en] at hno
      have ho2 : LeastH mn M G most none := fun j hj S r => hno j (by omega) S r
      have eo := leastH_one ho ho2
      subst eo
      dsimp only
      exact st_ret (K := K) ed_non fun v H5 e5 hv => hQ v H5 (e3.trans e5) hv
end
end K29
set_option Elab.async false
set_option linter.all false
set_option maxRecDepth 100000
set_option maxHeartbeats 4000000
/-! the program's world: what is read and written; promises over it -/
namespace K29
open PySem PySem.Spec PyProof.Rows L2
/-- the fields of a World -/
def wFs (a b c d e : V) (n s q : Addr) : List (Str × V) := [("machine", a), ("table", b), ("manner", c), ("reading", d), ("notes", .ref n), ("standing", e), ("said", .ref s), ("speakers", .ref q)]
/-- such a World stands at p, its lists at n s q -/
def WAt (K : PySem.W.Frag) (H : Hp) (p n s q : Addr) (mn : Mn) (M : Mach) (G : Tbl) (S : WS) : Prop :=
  ∃ (dx : Addr) (a b d e : V), H p = some (.ins (He.ga K "World") dx (wFs a b (.str mn.s) d e n s q)) ∧ (Im K H a (eM M) ∧ Im K H b (eT G) ∧ Im K H d (eRd S.rd) ∧ Im K H e (eSg S.stand)) ∧ (LsM K H n (S.shelf.map eNt) ∧ LsM K H s (S.heard.map eTd) ∧ LsM K H q (S.spoken.map eL)) ∧ n ≠ s ∧ n ≠ q ∧ s ≠ q
section
variable {K : PySem.W.Frag} {H H' H0 H1 H2 : Hp} {p n s q : Addr} {mn : Mn} {M : Mach} {G : Tbl} {S : WS}
theorem WAt.to (h : WAt K H p n s q mn M G S) (e : Ext H H') : WAt K H' p n s q mn M G S := by
  obtain ⟨dx, a, b, d, e', h0, ⟨h1, h2, h3, h4⟩, ⟨h5, h6, h7⟩, h8⟩ := h
  exact ⟨dx, a, b, d, e', e.get h0, ⟨h1.to e.kp, h2.to e.kp, h3.to e.kp, h4.to e.kp⟩, ⟨h5.to e, h6.to e, h7.to e⟩, h8⟩
theorem WAt.chg {A : List Addr} (h : WAt K H p n s q mn M G S) (e : Chg A H H') (hp : p ∉ A) (hn : n ∉ A) (hs : s ∉ A) (hq : q ∉ A) : WAt K H' p n s q mn M G S := by
  obtain ⟨dx, a, b, d, e', h0, ⟨h1, h2, h3, h4⟩, ⟨h5, h6, h7⟩, h8⟩ := h
  exact ⟨dx, a, b, d, e', e.obj p _ hp h0 (by intro ps z; cases z), ⟨h1.to e.kp, h2.to e.kp, h3.to e.kp, h4.to e.kp⟩, ⟨h5.chg e hn, h6.chg e hs, h7.chg e hq⟩, h8⟩
theorem ins_ne {l : Addr} {ds : List Dt} {C dx : Addr} {fs : List (Str × V)} (h : LsM K H l ds) (hp : H p = some (.ins C dx fs)) : p ≠ l := fun z => by
  obtain ⟨xs, h1, _⟩ := h
  rw [← z, hp] at h1
  cases h1
theorem WAt.pn (h : WAt K H p n s q mn M G S) : p ≠ n ∧ p ≠ s ∧ p ≠ q := by
  obtain ⟨dx, a, b, d, e', h0, _, ⟨h5, h6, h7⟩, _⟩ := h
  exact ⟨ins_ne h5 h0, ins_ne h6 h0, ins_ne h7 h0⟩
theorem WAt.ls (h : WAt K H p n s q mn M G S) : LsM K H n (S.shelf.map eNt) ∧ LsM K H s (S.heard.map eTd) ∧ LsM K H q (S.spoken.map eL) ∧ n ≠ s ∧ n ≠ q ∧ s ≠ q := by
  obtain ⟨_, _, _, _, _, _, _, ⟨h5, h6, h7⟩, h8⟩ := h
  exact ⟨h5, h6, h7, h8⟩
/-- all of it is where something stands -/
theorem WAt.live {l : Addr} (h : WAt K H p n s q mn M G S) (hl : H l = none) : p ≠ l ∧ n ≠ l ∧ s ≠ l ∧ q ≠ l := by
  obtain ⟨dx, a, b, d, e', h0, _, ⟨h5, h6, h7⟩, _⟩ := h
  exact ⟨ne_of_none h0 hl, h5.ne hl, h6.ne hl, h7.ne hl⟩
end
section
variable {w : World} {K : PySem.W.Frag} {mg : Str → Option Value} {base : Heap} {H H' H0 H1 H2 : Hp} {p n s q : Addr} {mn : Mn} {M : Mach} {G : Tbl} {S : WS} {σ : L2.St} {ta te tv : TE} {D : Ends} {tz : TS} {ds : List Dt}
theorem ed_wF {f : Str} {d : Dt} (nf : NoAttr K (He.ga K "World") f) (T : Txt w K mg base) (h : EdV ta σ H (.ref p)) (hW : ∃ (C dx : Addr) (fs : List (Str × V)) (v : V), H p = some (.ins C dx fs) ∧ C = He.ga K "World" ∧ fs.lookup f = some v ∧ Im K H v d) : Ed K (tFld K ta f) σ H d := by
  obtain ⟨C, dx, fs, v, h0, rfl, hl, hv⟩ := hW
  exact ed_of (ev_fld h h0 T.c_World nf hl) hv (Kp.refl H)
theorem ed_wMachine (T : Txt w K mg base) (h : EdV ta σ H (.ref p)) (hW : WAt K H p n s q mn M G S) : Ed K (tFld K ta "machine") σ H (eM M) := by
  obtain ⟨dx, a, b, d, e', h0, ⟨h1, h2, h3, h4⟩, _⟩ := hW
  exact ed_wF T.n_w_machine T h ⟨_, dx, _, a, h0, rfl, by rfl, h1⟩
theorem ed_wTable (T : Txt w K mg base) (h : EdV ta σ H (.ref p)) (hW : WAt K H p n s q mn M G S) : Ed K (tFld K ta "table") σ H (eT G) := by
  obtain ⟨dx, a, b, d, e', h0, ⟨h1, h2, h3, h4⟩, _⟩ := hW
  exact ed_wF T.n_w_table T h ⟨_, dx, _, b, h0, rfl, by rfl, h2⟩
theorem ed_wManner (T : Txt w K mg base) (h : EdV ta σ H (.ref p)) (hW : WAt K H p n s q mn M G S) : Ed K (tFld K ta "manner") σ H (.str mn.s) := by
  obtain ⟨dx, a, b, d, e', h0, ⟨h1, h2, h3, h4⟩, _⟩ := hW
  exact ed_wF T.n_w_manner T h ⟨_, dx, _, _, h0, rfl, by rfl, .str _⟩
theorem ed_wReading (T : Txt w K mg base) (h : EdV ta σ H (.ref p)) (hW : WAt K H p n s q mn M G S) : Ed K (tFld K ta "reading") σ H (eRd S.rd) := by
  obtain ⟨dx, a, b, d, e', h0, ⟨h1, h2, h3, h4⟩, _⟩ := hW
  exact ed_wF T.n_w_reading T h ⟨_, dx, _, d, h0, rfl, by rfl, h3⟩
theorem ed_wStanding (T : Txt w K mg base) (h : EdV ta σ H (.ref p)) (hW : WAt K H p n s q mn M G S) : Ed K (tFld K ta "standing") σ H (eSg S.stand) := by
  obtain ⟨dx, a, b, d, e', h0, ⟨h1, h2, h3, h4⟩, _⟩ := hW
  exact ed_wF T.n_w_standing T h ⟨_, dx, _, e', h0, rfl, by rfl, h4⟩
theorem ev_wNotes (T : Txt w K mg base) (h : EdV ta σ H (.ref p)) (hW : WAt K H p n s q mn M G S) : EdV (tFld K ta "notes") σ H (.ref n) := by
  obtain ⟨dx, a, b, d, e', h0, _⟩ := hW
  exact ev_fld h h0 T.c_World T.n_w_notes (by rfl)
theorem ev_wSaid (T : Txt w K mg base) (h : EdV ta σ H (.ref p)) (hW : WAt K H p n s q mn M G S) : EdV (tFld K ta "said") σ H (.ref s) := by
  obtain ⟨dx, a, b, d, e', h0, _⟩ := hW
  exact ev_fld h h0 T.c_World T.n_w_said (by rfl)
theorem ev_wSpeakers (T : Txt w K mg base) (h : EdV ta σ H (.ref p)) (hW : WAt K H p n s q mn M G S) : EdV (tFld K ta "speakers") σ H (.ref q) := by
  obtain ⟨dx, a, b, d, e', h0, _⟩ := hW
  exact ev_fld h h0 T.c_World T.n_w_speakers (by rfl)
theorem el_wNotes (T : Txt w K mg base) (h : EdV ta σ H (.ref p)) (hW : WAt K H p n s q mn M G S) : EdL K (tFld K ta "notes") σ H (S.shelf.map eNt) := el_of (ev_wNotes T h hW) hW.ls.1.rd
theorem el_wSaid (T : Txt w K mg base) (h : EdV ta σ H (.ref p)) (hW : WAt K H p n s q mn M G S) : EdL K (tFld K ta "said") σ H (S.heard.map eTd) := el_of (ev_wSaid T h hW) hW.ls.2.1.rd
theorem el_wSpeakers (T : Txt w K mg base) (h : EdV ta σ H (.ref p)) (hW : WAt K H p n s q mn M G S) : EdL K (tFld K ta "speakers") σ H (S.spoken.map eL) := el_of (ev_wSpeakers T h hW) hW.ls.2.2.1.rd
theorem wF8 {a b c d e : V} {n s q : Addr} : (wFs a b c d e n s q).length < 1000 := Nat.lt_of_lt_of_le (show 8 < 9 by decide) (by decide)
/-! writing -/
theorem st_wReading {r : Nat × Option Nat} (T : Txt w K mg base) (hv : Ed K tv σ H (eRd r)) (h : EdV ta σ H (.ref p)) (hW : WAt K H p n s q mn M G S) (k : ∀ H1, Chg [p] H H1 → WAt K H1 p n s q mn M G { S with rd := r } → D.nx σ H1) : sFld K ta tv "reading" D σ H :=
  hv H (Ext.refl H) _ fun v H1 e1 hv1 => h H1 e1 _ fun H2 e2 => by
    have hpn := hW.pn
    obtain ⟨dx, a, b, d, e', h0, ⟨h1, h2, h3, h4⟩, ⟨h5, h6, h7⟩, h8⟩ := hW.to (e1.trans e2)
    have cg : Chg [p] H2 (upd H2 p (.ins (He.ga K "World") dx (wFs a b (.str mn.s) v e' n s q))) := Chg.put h0
    exact ⟨p, _, dx, _, rfl, h0, T.c_World, T.n_w_reading, wF8, k _ ((e1.trans e2).chg.trans cg) ⟨dx, a, b, v, e', upd_same, ⟨h1.to cg.kp, h2.to cg.kp, hv1.to (e2.kp.trans cg.kp), h4.to cg.kp⟩, ⟨h5.chg cg (by simp [Ne.symm hpn.1]), h6.chg cg (by simp [Ne.symm hpn.2.1]), h7.chg cg (by simp [Ne.symm hpn.2.2])⟩, h8⟩⟩
theorem st_wStanding {g : Sg} (T : Txt w K mg base) (hv : Ed K tv σ H (eSg g)) (h : EdV ta σ H (.ref p)) (hW : WAt K H p n s q mn M G S) (k : ∀ H1, Chg [p] H H1 → WAt K H1 p n s q mn M G { S with stand := g } → D.nx σ H1) : sFld K ta tv "standing" D σ H :=
  hv H (Ext.refl H) _ fun v H1 e1 hv1 => h H1 e1 _ fun H2 e2 => by
    have hpn := hW.pn
    obtain ⟨dx, a, b, d, e', h0, ⟨h1, h2, h3, h4⟩, ⟨h5, h6, h7⟩, h8⟩ := hW.to (e1.trans e2)
    have cg : Chg [p] H2 (upd H2 p (.ins (He.ga K "World") dx (wFs a b (.str mn.s) d v n s q))) := Chg.put h0
    exact ⟨p, _, dx, _, rfl, h0, T.c_World, T.n_w_standing, wF8, k _ ((e1.trans e2).chg.trans cg) ⟨dx, a, b, d, v, upd_same, ⟨h1.to cg.kp, h2.to cg.kp, h3.to cg.kp, hv1.to (e2.kp.trans cg.kp)⟩, ⟨h5.chg cg (by simp [Ne.symm hpn.1]), h6.chg cg (by simp [Ne.symm hpn.2.1]), h7.chg cg (by simp [Ne.symm hpn.2.2])⟩, h8⟩⟩
theorem st_wNotes {S' : List Nt} (T : Txt w K mg base) (hv : EdN K tv σ H (S'.map eNt)) (h : EdV ta σ H (.ref p)) (hW : WAt K H p n s q mn M G S) (k : ∀ H1 n', Chg [p] H H1 → H n' = none → WAt K H1 p n' s q mn M G { S with shelf := S' } → D.nx σ H1) : sFld K ta tv "notes" D σ H :=
  hv H (Ext.refl H) _ fun l H1 e1 nl hv1 => h H1 e1 _ fun H2 e2 => by
    have hpn := hW.pn
    have hlv := hW.live nl
    obtain ⟨dx, a, b, d, e', h0, ⟨h1, h2, h3, h4⟩, ⟨h5, h6, h7⟩, h8, h9, h10⟩ := hW.to (e1.trans e2)
    have cg : Chg [p] H2 (upd H2 p (.ins (He.ga K "World") dx (wFs a b (.str mn.s) d e' l s q))) := Chg.put h0
    exact ⟨p, _, dx, _, rfl, h0, T.c_World, T.n_w_notes, wF8, k _ l ((e1.trans e2).chg.trans cg) nl ⟨dx, a, b, d, e', upd_same, ⟨h1.to cg.kp, h2.to cg.kp, h3.to cg.kp, h4.to cg.kp⟩, ⟨(hv1.to e2).chg cg (by simp [Ne.symm hlv.1]), h6.chg cg (by simp [Ne.symm hpn.2.1]), h7.chg cg (by simp [Ne.symm hpn.2.2])⟩, Ne.symm hlv.2.2.1, Ne.symm hlv.2.2.2, h10⟩⟩
theorem st_wSaid {S' : List (Nat × Str)} (T : Txt w K mg base) (hv : EdN K tv σ H (S'.map eTd)) (h : EdV ta σ H (.ref p)) (hW : WAt K H p n s q mn M G S) (k : ∀ H1 s', Chg [p] H H1 → H s' = none → WAt K H1 p n s' q mn M G { S with heard := S' } → D.nx σ H1) : sFld K ta tv "said" D σ H :=
  hv H (Ext.refl H) _ fun l H1 e1 nl hv1 => h H1 e1 _ fun H2 e2 => by
    have hpn := hW.pn
    have hlv := hW.live nl
    obtain ⟨dx, a, b, d, e', h0, ⟨h1, h2, h3, h4⟩, ⟨h5, h6, h7⟩, h8, h9, h10⟩ := hW.to (e1.trans e2)
    have cg : Chg [p] H2 (upd H2 p (.ins (He.ga K "World") dx (wFs a b (.str mn.s) d e' n l q))) := Chg.put h0
    exact ⟨p, _, dx, _, rfl, h0, T.c_World, T.n_w_said, wF8, k _ l ((e1.trans e2).chg.trans cg) nl ⟨dx, a, b, d, e', upd_same, ⟨h1.to cg.kp, h2.to cg.kp, h3.to cg.kp, h4.to cg.kp⟩, ⟨h5.chg cg (by simp [Ne.symm hpn.1]), (hv1.to e2).chg cg (by simp [Ne.symm hlv.1]), h7.chg cg (by simp [Ne.symm hpn.2.2])⟩, hlv.2.1, h9, Ne.symm hlv.2.2.2⟩⟩
theorem st_wSpeakers {S' : List Life} (T : Txt w K mg base) (hv : EdN K tv σ H (S'.map eL)) (h : EdV ta σ H (.ref p)) (hW : WAt K H p n s q mn M G S) (k : ∀ H1 q', Chg [p] H H1 → H q' = none → WAt K H1 p n s q' mn M G { S with spoken := S' } → D.nx σ H1) : sFld K ta tv "speakers" D σ H :=
  hv H (Ext.refl H) _ fun l H1 e1 nl hv1 => h H1 e1 _ fun H2 e2 => by
    have hpn := hW.pn
    have hlv := hW.live nl
    obtain ⟨dx, a, b, d, e', h0, ⟨h1, h2, h3, h4⟩, ⟨h5, h6, h7⟩, h8, h9, h10⟩ := hW.to (e1.trans e2)
    have cg : Chg [p] H2 (upd H2 p (.ins (He.ga K "World") dx (wFs a b (.str mn.s) d e' n s l))) := Chg.put h0
    exact ⟨p, _, dx, _, rfl, h0, T.c_World, T.n_w_speakers, wF8, k _ l ((e1.trans e2).chg.trans cg) nl ⟨dx, a, b, d, e', upd_same, ⟨h1.to cg.kp, h2.to cg.kp, h3.to cg.kp, h4.to cg.kp⟩, ⟨h5.chg cg (by simp [Ne.symm hpn.1]), h6.chg cg (by simp [Ne.symm hpn.2.1]), (hv1.to e2).chg cg (by simp [Ne.symm hlv.1])⟩, h8, hlv.2.1, hlv.2.2.1⟩⟩
/-! growing -/
theorem st_wNote {t : Nt} (T : Txt w K mg base) (hv : Ed K te σ H (eNt t)) (h : EdV ta σ H (.ref p)) (hW : WAt K H p n s q mn M G S) (hz : S.shelf.length ≤ 1000) (k : ∀ H1, Chg [n] H H1 → WAt K H1 p n s q mn M G { S with shelf := S.shelf ++ [t] } → D.nx σ H1) : tDrop (tBM K "list" rAppend (tFld K ta "notes") (tCons te tNil)) D σ H := by
  have hpn := hW.pn
  refine st_app hW.ls.1 (ev_wNotes T h hW) hv (by rw [List.length_map]; omega) fun H1 c hl => k H1 c ?_
  obtain ⟨dx, a, b, d, e', h0, ⟨h1, h2, h3, h4⟩, ⟨h5, h6, h7⟩, h8, h9, h10⟩ := hW
  exact ⟨dx, a, b, d, e', c.obj p _ (by simp [hpn.1]) h0 (by intro ps z; cases z), ⟨h1.to c.kp, h2.to c.kp, h3.to c.kp, h4.to c.kp⟩, ⟨by rw [List.map_append]; exact hl, h6.chg c (by simp [Ne.symm h8]), h7.chg c (by simp [Ne.symm h9])⟩, h8, h9, h10⟩
theorem st_wHeard {t : Nat × Str} (T : Txt w K mg base) (hv : Ed K te σ H (eTd t)) (h : EdV ta σ H (.ref p)) (hW : WAt K H p n s q mn M G S) (hz : S.heard.length ≤ 1000) (k : ∀ H1, Chg [s] H H1 → WAt K H1 p n s q mn M G { S with heard := S.heard ++ [t] } → D.nx σ H1) : tDrop (tBM K "list" rAppend (tFld K ta "said") (tCons te tNil)) D σ H := by
  have hpn := hW.pn
  refine st_app hW.ls.2.1 (ev_wSaid T h hW) hv (by rw [List.length_map]; omega) fun H1 c hl => k H1 c ?_
  obtain ⟨dx, a, b, d, e', h0, ⟨h1, h2, h3, h4⟩, ⟨h5, h6, h7⟩, h8, h9, h10⟩ := hW
  exact ⟨dx, a, b, d, e', c.obj p _ (by simp [hpn.2.1]) h0 (by intro ps z; cases z), ⟨h1.to c.kp, h2.to c.kp, h3.to c.kp, h4.to c.kp⟩, ⟨h5.chg c (by simp [h8]), by rw [List.map_append]; exact hl, h7.chg c (by simp [Ne.symm h10])⟩, h8, h9, h10⟩
theorem st_wSpoke {t : Life} (T : Txt w K mg base) (hv : Ed K te σ H (eL t)) (h : EdV ta σ H (.ref p)) (hW : WAt K H p n s q mn M G S) (hz : S.spoken.length ≤ 1000) (k : ∀ H1, Chg [q] H H1 → WAt K H1 p n s q mn M G { S with spoken := S.spoken ++ [t] } → D.nx σ H1) : tDrop (tBM K "list" rAppend (tFld K ta "speakers") (tCons te tNil)) D σ H := by
  have hpn := hW.pn
  refine st_app hW.ls.2.2.1 (ev_wSpeakers T h hW) hv (by rw [List.length_map]; omega) fun H1 c hl => k H1 c ?_
  obtain ⟨dx, a, b, d, e', h0, ⟨h1, h2, h3, h4⟩, ⟨h5, h6, h7⟩, h8, h9, h10⟩ := hW
  exact ⟨dx, a, b, d, e', c.obj p _ (by simp [hpn.2.2]) h0 (by intro ps z; cases z), ⟨h1.to c.kp, h2.to c.kp, h3.to c.kp, h4.to c.kp⟩, ⟨h5.chg c (by simp [h9]), h6.chg c (by simp [h10]), by rw [List.map_append]; exact hl⟩, h8, h9, h10⟩
/-! ### promises -/
/-- the World is changed, what comes is known -/
def SpW (K : PySem.W.Frag) (TL : List Addr) (R : List Dt → Mn → Mach → Tbl → WS → Dt → WS → Prop) : Sp := fun vs H Q _ => ∃ (p n s q : Addr) (rest : List V) (ds : List Dt) (mn : Mn) (M : Mach) (G : Tbl) (S S' : WS) (d : Dt), vs = .ref p :: rest ∧ ImAll K H rest ds ∧ Tabs TL H ∧ WAt K H p n s q mn M G S ∧ R ds mn M G S d S' ∧ ∀ v H', Chg [p, n, s, q] H H' → Im K H' v d → WAt K H' p n s q mn M G S' → Q v H'
/-- .. is read: a datum -/
def SpWF (K : PySem.W.Frag) (TL : List Addr) (R : List Dt → Mn → Mach → Tbl → WS → Dt → Prop) : Sp := fun vs H Q _ => ∃ (p n s q : Addr) (rest : List V) (ds : List Dt) (mn : Mn) (M : Mach) (G : Tbl) (S : WS) (d : Dt), vs = .ref p :: rest ∧ ImAll K H rest ds ∧ Tabs TL H ∧ WAt K H p n s q mn M G S ∧ R ds mn M G S d ∧ ∀ v H', Ext H H' → Im K H' v d → Q v H'
/-- .. is read: a new list -/
def SpWG (K : PySem.W.Frag) (TL : List Addr) (R : List Dt → Mn → Mach → Tbl → WS → List Dt → Prop) : Sp := fun vs H Q _ => ∃ (p n s q : Addr) (rest : List V) (ds : List Dt) (mn : Mn) (M : Mach) (G : Tbl) (S : WS) (es : List Dt), vs = .ref p :: rest ∧ ImAll K H rest ds ∧ Tabs TL H ∧ WAt K H p n s q mn M G S ∧ R ds mn M G S es ∧ ∀ l H', Ext H H' → H l = none → LsM K H' l es → Q (.ref l) H'
/-- .. is read: whether what comes is None -/
def SpWN (K : PySem.W.Frag) (TL : List Addr) (R : List Dt → Mn → Mach → Tbl → WS → Prop → Prop) : Sp := fun vs H Q _ => ∃ (p n s q : Addr) (rest : List V) (ds : List Dt) (mn : Mn) (M : Mach) (G : Tbl) (S : WS) (φ : Prop), vs = .ref p :: rest ∧ ImAll K H rest ds ∧ Tabs TL H ∧ WAt K H p n s q mn M G S ∧ R ds mn M G S φ ∧ ∀ v H', Ext H H' → (v = .non ↔ φ) → Q v H'
variable {TL : List Addr} {E : XK} {tr : TA} {S' : WS} {d : Dt} {m : Str} {es : List Dt} {k : Bool}
/-- no field has the name of a method -/
def Bare (m : Str) : Prop := ∀ (a b c d e : V) (n s q : Addr), (wFs a b c d e n s q).lookup m = none
theorem ed_wCallF {R : List Dt → Mn → Mach → Tbl → WS → Dt → Prop} (h0 : EdV ta σ H (.ref p)) (hW : WAt K H p n s q mn M G S) (h : EdA K tr σ H ds) (ht : Tabs TL H0) (hk : Kp H0 H) (hr : R ds mn M G S d) (hm : Bare m := by intro _ _ _ _ _ _ _ _; rfl) : Ed K (tMeth (He.ga K "World") m (SpWF K TL R) [] E ta tr) σ H d := fun H1 e Q z =>
  h0 H1 e _ fun H2 e2 => by
    obtain ⟨dx, a, b, d', e', g0, _⟩ := hW.to (e.trans e2)
    exact ⟨p, dx, _, rfl, g0, hm .., h H2 (e.trans e2) _ fun vs H3 e3 hs => ⟨p, n, s, q, vs, ds, mn, M, G, S, d, by rw [List.append_nil], hs, ht.to (((hk.trans e.kp).trans e2.kp).trans e3.kp), hW.to ((e.trans e2).trans e3), hr, fun v H4 e4 hv => z v H4 (e2.trans (e3.trans e4)) hv⟩⟩
theorem en_wCallG {R : List Dt → Mn → Mach → Tbl → WS → List Dt → Prop} (h0 : EdV ta σ H (.ref p)) (hW : WAt K H p n s q mn M G S) (h : EdA K tr σ H ds) (ht : Tabs TL H0) (hk : Kp H0 H) (hr : R ds mn M G S es) (hm : Bare m := by intro _ _ _ _ _ _ _ _; rfl) : EdN K (tMeth (He.ga K "World") m (SpWG K TL R) [] E ta tr) σ H es := fun H1 e Q z =>
  h0 H1 e _ fun H2 e2 => by
    obtain ⟨dx, a, b, d', e', g0, _⟩ := hW.to (e.trans e2)
    exact ⟨p, dx, _, rfl, g0, hm .., h H2 (e.trans e2) _ fun vs H3 e3 hs => ⟨p, n, s, q, vs, ds, mn, M, G, S, es, by rw [List.append_nil], hs, ht.to (((hk.trans e.kp).trans e2.kp).trans e3.kp), hW.to ((e.trans e2).trans e3), hr, fun v H4 e4 hn hv => z v H4 (e2.trans (e3.trans e4)) (e2.free (e3.free hn)) hv⟩⟩
theorem ed_wCallN {R : List Dt → Mn → Mach → Tbl → WS → Prop → Prop} {φ : Prop} (h0 : EdV ta σ H (.ref p)) (hW : WAt K H p n s q mn M G S) (h : EdA K tr σ H ds) (ht : Tabs TL H0) (hk : Kp H0 H) (hr : R ds mn M G S φ) (hkk : k = true ↔ ¬ φ) (hm : Bare m := by intro _ _ _ _ _ _ _ _; rfl) : Ed K (tNotN (tMeth (He.ga K "World") m (SpWN K TL R) [] E ta tr)) σ H (.bl k) := fun H1 e Q z =>
  h0 H1 e _ fun H2 e2 => by
    obtain ⟨dx, a, b, d', e', g0, _⟩ := hW.to (e.trans e2)
    refine ⟨p, dx, _, rfl, g0, hm .., h H2 (e.trans e2) _ fun vs H3 e3 hs => ⟨p, n, s, q, vs, ds, mn, M, G, S, φ, by rw [List.append_nil], hs, ht.to (((hk.trans e.kp).trans e2.kp).trans e3.kp), hW.to ((e.trans e2).trans e3), hr, fun v H4 e4 hv => ?_⟩⟩
    have ek : (!decide (v = .non)) = k := by
      rw [Bool.eq_iff_iff, Bool.not_eq_true', decide_eq_false_iff_not, hkk, hv]
    show Q (.bl (!decide (v = .non))) H4
    rw [ek]
    exact z _ H4 (e2.trans (e3.trans e4)) (.bl k)
theorem st_wCall {R : List Dt → Mn → Mach → Tbl → WS → Dt → WS → Prop} (h0 : EdV ta σ H (.ref p)) (hW : WAt K H p n s q mn M G S) (h : EdA K tr σ H ds) (ht : Tabs TL H0) (hk : Kp H0 H) (hr : R ds mn M G S d S') (Q : VK) (z : ∀ v H1, Chg [p, n, s, q] H H1 → Im K H1 v d → WAt K H1 p n s q mn M G S' → Q v H1) (hm : Bare m := by intro _ _ _ _ _ _ _ _; rfl) : tMeth (He.ga K "World") m (SpW K TL R) [] E ta tr σ H Q :=
  h0 H (Ext.refl H) _ fun H2 e2 => by
    obtain ⟨dx, a, b, d', e', g0, _⟩ := hW.to e2
    exact ⟨p, dx, _, rfl, g0, hm .., h H2 e2 _ fun vs H3 e3 hs => ⟨p, n, s, q, vs, ds, mn, M, G, S, S', d, by rw [List.append_nil], hs, ht.to ((hk.trans e2.kp).trans e3.kp), hW.to (e2.trans e3), hr, fun v H4 c4 hv hw => z v H4 ((e2.trans e3).chg.trans c4) hv hw⟩⟩
end
end K29
set_option Elab.async false
set_option linter.all false
set_option maxRecDepth 100000
set_option maxHeartbeats 4000000
/-! the program's world: the walks -/
namespace K29
open PySem PySem.Spec PyProof.Rows L2
local macro_rules | `(tactic| walk_at "kp") => `(tactic| first | exact Kp.refl _ | assumption | exact Chg.kp (by assumption) | (refine Kp.trans ?_ (Chg.kp (by assumption)); walk_at "kp"))
local macro_rules | `(tactic| walk_at "ext") => `(tactic| first | exact Ext.refl _ | assumption | (refine Ext.trans ?_ (by assumption); walk_at "ext"))

local macro_rules | `(tactic| walk_at "wat") => `(tactic| first | assumption | (refine WAt.to ?_ (by assumption); walk_at "wat"))
section
variable {w : World} {K : PySem.W.Frag} {mg : Str → Option Value} {base : Heap} {H H' H0 H1 H2 : Hp} {p n s q : Addr} {mn : Mn} {M : Mach} {G : Tbl} {S S' : WS} {σ : L2.St} {ta te tv : TE} {D : Ends} {tz : TS} {ds : List Dt} {TL : List Addr} {E : XK} {tr : TA} {d : Dt} {m : Str}
theorem q_wCall {R : List Dt → Mn → Mach → Tbl → WS → Dt → WS → Prop} (h0 : EdV ta σ H (.ref p)) (hW : WAt K H p n s q mn M G S) (h : EdA K tr σ H ds) (ht : Tabs TL H0) (hk : Kp H0 H) (hr : R ds mn M G S d S') (z : ∀ H1, Chg [p, n, s, q] H H1 → WAt K H1 p n s q mn M G S' → tz D σ H1) (hm : Bare m := by intro _ _ _ _ _ _ _ _; rfl) : tSeq (tDrop (tMeth (He.ga K "World") m (SpW K TL R) [] E ta tr)) tz D σ H :=
  st_wCall h0 hW h ht hk hr (fun _ H1 => tz D σ H1) (fun _ H1 c _ hw => z H1 c hw) hm
theorem sd_wCall {R : List Dt → Mn → Mach → Tbl → WS → Dt → WS → Prop} (h0 : EdV ta σ H (.ref p)) (hW : WAt K H p n s q mn M G S) (h : EdA K tr σ H ds) (ht : Tabs TL H0) (hk : Kp H0 H) (hr : R ds mn M G S d S') (z : ∀ H1, Chg [p, n, s, q] H H1 → WAt K H1 p n s q mn M G S' → D.nx σ H1) (hm : Bare m := by intro _ _ _ _ _ _ _ _; rfl) : tDrop (tMeth (He.ga K "World") m (SpW K TL R) [] E ta tr) D σ H :=
  st_wCall h0 hW h ht hk hr (fun _ H1 => D.nx σ H1) (fun _ H1 c _ hw => z H1 c hw) hm
theorem q_wReading {r : Nat × Option Nat} (T : Txt w K mg base) (hv : Ed K tv σ H (eRd r)) (h : EdV ta σ H (.ref p)) (hW : WAt K H p n s q mn M G S) (k : ∀ H1, Chg [p] H H1 → WAt K H1 p n s q mn M G { S with rd := r } → tz D σ H1) : tSeq (sFld K ta tv "reading") tz D σ H := st_wReading (D := { D with nx := tz D }) T hv h hW k
theorem q_wStanding {g : Sg} (T : Txt w K mg base) (hv : Ed K tv σ H (eSg g)) (h : EdV ta σ H (.ref p)) (hW : WAt K H p n s q mn M G S) (k : ∀ H1, Chg [p] H H1 → WAt K H1 p n s q mn M G { S with stand := g } → tz D σ H1) : tSeq (sFld K ta tv "standing") tz D σ H := st_wStanding (D := { D with nx := tz D }) T hv h hW k
theorem q_wHeard {t : Nat × Str} (T : Txt w K mg base) (hv : Ed K te σ H (eTd t)) (h : EdV ta σ H (.ref p)) (hW : WAt K H p n s q mn M G S) (hz : S.heard.length ≤ 1000) (k : ∀ H1, Chg [s] H H1 → WAt K H1 p n s q mn M G { S with heard := S.heard ++ [t] } → tz D σ H1) : tSeq (tDrop (tBM K "list" rAppend (tFld K ta "said") (tCons te tNil))) tz D σ H := st_wHeard (D := { D with nx := tz D }) T hv h hW hz k
end
section
variable {P : Program} {w : World} {K : PySem.W.Frag} {mg : Str → Option Value} {base : Heap}
theorem im_off (T : Txt w K mg base) (H : Hp) : Im K H (.ref (He.ga K "OFF")) (eSg .off) := .tup (T.con 2 (h := rfl) H) (.cons (.str _) .nil)
theorem im_mute (T : Txt w K mg base) (H : Hp) : Im K H (.ref (He.ga K "MUTE")) (eSg .mute) := .tup (T.con 3 (h := rfl) H) (.cons (.str _) .nil)
def R_w_fits (ds : List Dt) (mn : Mn) (M : Mach) (G : Tbl) (S : WS) (d : Dt) : Prop := ∃ t : Nt, ds = [eNt t] ∧ d = .bl (fitsW mn S.rd t)
theorem sc_w_fits : FnScope ["self", "note"] ["self", "note"] (defScope s_w_fits) := ⟨rfl, rfl, rfl, by decide +kernel, rfl, by decide +kernel, by decide +kernel⟩
theorem ok_w_fits (T : Txt w K mg base) : Ok P w K mg base 1 ("World", some "fits") ["self", "note"] (SpWF K (TL K) R_w_fits) := by
  refine ok_of (k := 0) T.f_w_fits sc_w_fits (fun vs H Q E h => ?_) (fun _ _ _ _ _ _ us hl => match us, hl with | [_, _], _ => rfl) (fun cdv A outer s H vs Q E hr h => ?_)
  · obtain ⟨p, n, s, q, rest, ds, mn, M, G, S, d, rfl, hi, _, _, ⟨t, rfl, _⟩, _⟩ := h
    rw [List.length_cons, hi.length]
    rfl
  · obtain ⟨p, n, s, q, rest, ds, mn, M, G, S, d, rfl, hi, hT, hW, ⟨t, rfl, rfl⟩, hQ⟩ := h
    cases hi with | cons h1 hi =>
    cases hi
    rename_i vt
    refine ⟨_, (pss_cons (ps_if (pt_cmpR (r := rEqD K) (op_eqD hr.units) (pe_fldK (K := K) rfl (pv 0) rfl) pe_str (nomark _)) (pss_one (ps_ret pe_bl)) pss_nil)
      (pss_cons (ps_if (pt_cmpR (r := rEqD K) (op_eqD hr.units) (pe_fldK (K := K) rfl (pv 0) rfl) pe_str (nomark _)) (pss_one (ps_ret (pe_cmpR (r := rEqD K) (op_eqD hr.units) (pe_ix (r := rIx K) ix_seq (pv 1) pe_int (fun _ _ => rfl)) (pe_ix (r := rIx K) ix_seq (pe_fldK (K := K) rfl (pv 0) rfl) pe_int (fun _ _ => rfl)) (nomark _)))) pss_nil)
      (pss_one (ps_ret (pe_cmpR (r := rEqD K) (op_eqD hr.units) (pe_slice (r := rSlX K) sl_X (pv 1) po_none (po_some pe_int)) (pe_fldK (K := K) rfl (pv 0) rfl) (nomark _)))))), ?_⟩
    try dsimp only [cxOf, Cx.nox, Cx.wish]
    refine rd_start [some (.ref p), some vt] ?_
    obtain ⟨tn, tk, tl, td⟩ := t
    refine q_if (k := decide (mn = .opened)) (et_test (ed_isMn .opened (ed_wManner T ev_v hW))) (fun z H1 e1 => ?_) fun z H1 e1 => ?_
    · have z2 := of_decide_eq_true z
      subst z2
      exact st_ret (K := K) ed_bl fun v H2 e2 hv => hQ v H2 (e1.trans e2) hv
    · have z2 := of_decide_eq_false z
      have hW1 := hW.to e1
      refine q_if (k := decide (mn = .counted)) (et_test (ed_isMn .counted (ed_wManner T ev_v hW1))) (fun z3 H2 e2 => ?_) fun z3 H2 e2 => ?_
      · have z4 := of_decide_eq_true z3
        subst z4
        have hW2 := hW1.to e2
        refine st_ret (K := K) (Ed.is (ed_op (ed_op (ed_v h1) ed_int (rd_ix (by rfl))) (ed_op (ed_wReading T ev_v hW2) ed_int (rd_ix (by rfl))) rd_eqI) ?_) fun v H3 e3 hv => hQ v H3 (e1.trans (e2.trans e3)) hv
        exact congrArg Dt.bl (decide_eq_decide.mpr (by omega))
      · have z4 := of_decide_eq_false z3
        have hW2 := hW1.to e2
        have e3 : cutD [eN tn, eK tk, eL tl, eN td] none (some ((2 : Int))) = [eN tn, eK tk] := by rfl
        refine st_ret (K := K) (ed_op (Ed.is (ed_sl (ed_v h1) eo_none (eo_some (K := K) ed_int)) (show _ = eRd (tn, tk) from congrArg Dt.tup e3)) (ed_wReading T ev_v hW2) (rd_eq (n := 1) (m := 1) ok_eRd ok_eRd ?_)) fun v H3 e3 hv => hQ v H3 (e1.trans (e2.trans e3)) hv
        rw [eRd_inj]
        cases mn <;> first | exact absurd rfl z2 | exact absurd rfl z4 | (simp [fitsW, Prod.ext_iff])
def R_w_say (ds : List Dt) (mn : Mn) (M : Mach) (G : Tbl) (S : WS) (d : Dt) (S' : WS) : Prop := ∃ (m n : Nat) (l : Life) (x : Nat), ds = [eL l, eN x] ∧ House M G m ∧ LvN M n l ∧ n ≤ 90 ∧ Sm S ∧ d = .non ∧ S' = sayW M l x S
theorem sc_w_say : FnScope ["self", "life", "number", "word"] ["self", "life", "number"] (defScope s_w_say) := ⟨rfl, rfl, rfl, by decide +kernel, rfl, by decide +kernel, by decide +kernel⟩
theorem ok_w_say (T : Txt w K mg base) : Ok P w K mg base 5 ("World", some "say") ["self", "life", "number"] (SpW K (TL K) R_w_say) := by
  obtain ⟨⟨fd_word_of, F_word_of, b_word_of⟩, k_word_of⟩ := ok_word_of (P := P) T
  refine ok_of (k := 4) T.f_w_say sc_w_say (fun vs H Q E h => ?_) (fun _ _ _ _ _ _ us hl => match us, hl with | [_, _, _], _ => rfl) (fun cdv A outer s H vs Q E hr h => ?_)
  · obtain ⟨p, n, s, q, rest, ds, mn, M, G, S, S', d, rfl, hi, _, _, ⟨m, n, l, x, rfl, _⟩, _⟩ := h
    rw [List.length_cons, hi.length]
    rfl
  · obtain ⟨p, n, s, q, rest, ds, mn, M, G, S, S', d, rfl, hi, hT, hW, ⟨m, nn, l, x, rfl, hH, hl, hn, hs, rfl, rfl⟩, hQ⟩ := h
    cases hi with | cons h1 hi => cases hi with | cons h2 hi =>
    cases hi
    rename_i vl vx
    refine ⟨_, (pss_cons (ps_set (i := 3) sc_w_say.nd rfl (Or.inl rfl) (pe_call F_word_of (hr.mono (by decide)) (by rfl) T.g_word_of k_word_of b_word_of .nil pass0 (pa_cons (pe_fldK (K := K) rfl (pv 0) rfl) (pa_cons (pv 1) pa_nil))))
      (pss_one (ps_if (pt_cmp (pc_notN (pv 3))) (pss_cons (ps_expr (pe_bm PySem.F.plainAttrs_list PySem.F.slot_list_append PySem.F.type_list_append mt_append (pe_fldK (K := K) rfl (pv 0) rfl) (pa_cons (pe_tup (pa_cons (pv 2) (pa_cons (pv 3) pa_nil))) pa_nil)))
        (pss_one (ps_if (pt_cmpR (r := rInX K true) (op_ninX (u65 hr)) (pv 1) (pe_fldK (K := K) rfl (pv 0) rfl) (by with_unfolding_all rfl)) (pss_one (ps_expr (pe_bm PySem.F.plainAttrs_list PySem.F.slot_list_append PySem.F.type_list_append mt_append (pe_fldK (K := K) rfl (pv 0) rfl) (pa_cons (pv 1) pa_nil)))) pss_nil))) pss_nil))), ?_⟩
    try dsimp only [cxOf, Cx.nox, Cx.wish]
    refine rd_start [some (.ref p), some vl, some vx, none] ?_
    have hwo := word_ok hH hl
    have hhd := hs.hd
    have hsp := hs.sp
    refine q_set (ed_call (ea_cons (ed_wMachine T ev_v hW) (ea_cons (ed_v h1) ea_nil)) hT (by walk_at "kp") ⟨M, l, wordT M l, rfl, by have := hl.2; omega, hwo.1, rfl⟩) fun y H1 e1 hy => ?_
    have hW1 := hW.to e1
    refine rd_start' [some (.ref p), some vl, some vx, some y] ?_
    cases ew : wordT M l with
    | none =>
      rw [ew] at hy
      have hS : sayW M l x S = S := by unfold sayW; rw [ew]
      rw [hS] at hQ
      exact st_skip (et_B (ed_notN (ed_v hy) (by simp [eW]))) fun H2 e2 => hQ _ H2 (e1.trans e2).chg .non (hW1.to e2)
    | some wd =>
      rw [ew] at hy
      refine st_do (et_B (ed_notN (ed_v hy) (by simp [eW]))) fun H2 e2 => ?_
      refine q_wHeard (t := (x, wd)) T (ed_tup (ea_cons (ed_v h2) (ea_cons (ed_v hy) ea_nil)) (by simp)) ev_v (hW1.to e2) (by omega) fun H3 c3 hW3 => ?_
      have hS : sayW M l x S = { S with heard := S.heard ++ [(x, wd)], spoken := if l ∈ S.spoken then S.spoken else S.spoken ++ [l] } := by unfold sayW; rw [ew]
      rw [hS] at hQ
      by_cases hm : l ∈ S.spoken
      · rw [if_pos hm] at hQ
        refine st_skip (et_test (ed_ninL (n := 1) (m := 1) (ed_v h1) (el_wSpeakers T ev_v hW3) ok_eL all_ok_eL (show false = true ↔ eL l ∉ S.spoken.map eL by simp [mem_eL, hm]))) fun H4 e4 => ?_
        exact hQ _ H4 ((e1.trans e2).chg.trans ((c3.mono (by simp)).trans e4.chg)) .non (hW3.to e4)
      · rw [if_neg hm] at hQ
        refine st_do (et_test (ed_ninL (n := 1) (m := 1) (ed_v h1) (el_wSpeakers T ev_v hW3) ok_eL all_ok_eL (show true = true ↔ eL l ∉ S.spoken.map eL by simp [mem_eL, hm]))) fun H4 e4 => ?_
        exact st_wSpoke T (ed_v h1) ev_v (hW3.to e4) (by show S.spoken.length ≤ 1000; omega) fun H5 c5 hW5 => hQ _ H5 ((e1.trans e2).chg.trans ((c3.mono (by simp)).trans (e4.chg.trans (c5.mono (by simp))))) .non hW5
def R_w_seal (ds : List Dt) (mn : Mn) (M : Mach) (G : Tbl) (S : WS) (d : Dt) (S' : WS) : Prop := ∃ t : Nt, ds = [eNt t] ∧ S.shelf.length ≤ 100 ∧ d = .non ∧ S' = putW t S
theorem sc_w_seal : FnScope ["self", "note"] ["self", "note"] (defScope s_w_seal) := ⟨rfl, rfl, rfl, by decide +kernel, rfl, by decide +kernel, by decide +kernel⟩
theorem ok_w_seal (T : Txt w K mg base) : Ok P w K mg base 1 ("World", some "seal") ["self", "note"] (SpW K (TL K) R_w_seal) := by
  refine ok_of (k := 0) T.f_w_seal sc_w_seal (fun vs H Q E h => ?_) (fun _ _ _ _ _ _ us hl => match us, hl with | [_, _], _ => rfl) (fun cdv A outer s H vs Q E hr h => ?_)
  · obtain ⟨p, n, s, q, rest, ds, mn, M, G, S, S', d, rfl, hi, _, _, ⟨t, rfl, _⟩, _⟩ := h
    rw [List.length_cons, hi.length]
    rfl
  · obtain ⟨p, n, s, q, rest, ds, mn, M, G, S, S', d, rfl, hi, hT, hW, ⟨t, rfl, hs, rfl, rfl⟩, hQ⟩ := h
    cases hi with | cons h1 hi =>
    cases hi
    rename_i vt
    refine ⟨_, (pss_one (ps_if (pt_cmpR (r := rInX K true) (op_ninX (u65 hr)) (pv 1) (pe_fldK (K := K) rfl (pv 0) rfl) (by with_unfolding_all rfl)) (pss_one (ps_expr (pe_bm PySem.F.plainAttrs_list PySem.F.slot_list_append PySem.F.type_list_append mt_append (pe_fldK (K := K) rfl (pv 0) rfl) (pa_cons (pv 1) pa_nil)))) pss_nil)), ?_⟩
    try dsimp only [cxOf, Cx.nox, Cx.wish]
    refine rd_start [some (.ref p), some vt] ?_
    unfold putW at hQ
    by_cases hm : t ∈ S.shelf
    · rw [if_pos hm] at hQ
      exact st_skip (et_test (ed_ninL (n := 2) (m := 2) (ed_v h1) (el_wNotes T ev_v hW) ok_eNt all_ok_eNt (show false = true ↔ eNt t ∉ S.shelf.map eNt by simp [mem_eNt, hm]))) fun H4 e4 => hQ _ H4 e4.chg .non (hW.to e4)
    · rw [if_neg hm] at hQ
      refine st_do (et_test (ed_ninL (n := 2) (m := 2) (ed_v h1) (el_wNotes T ev_v hW) ok_eNt all_ok_eNt (show true = true ↔ eNt t ∉ S.shelf.map eNt by simp [mem_eNt, hm]))) fun H4 e4 => ?_
      exact st_wNote T (ed_v h1) ev_v (hW.to e4) (by omega) fun H5 c5 hW5 => hQ _ H5 (e4.chg.trans (c5.mono (by simp))) .non hW5
def R_w_come_to (ds : List Dt) (mn : Mn) (M : Mach) (G : Tbl) (S : WS) (d : Dt) (S' : WS) : Prop := ∃ (m n : Nat) (l : Life) (dn : Nat), ds = [eL l, eN dn] ∧ House M G m ∧ LvN M n l ∧ n ≤ 80 ∧ dn ≤ (rowT M G l).length ∧ Sm S ∧ S.shelf.length ≤ 85 ∧ d = .non ∧ S' = comeW mn M G l dn S
theorem sc_w_come_to : FnScope ["self", "life", "done", "row", "note"] ["self", "life", "done"] (defScope s_w_come_to) := ⟨rfl, rfl, rfl, by decide +kernel, rfl, by decide +kernel, by decide +kernel⟩
theorem ok_w_come_to (T : Txt w K mg base) : Ok P w K mg base 6 ("World", some "come_to") ["self", "life", "done"] (SpW K (TL K) R_w_come_to) := by
  obtain ⟨⟨fd_row_of, F_row_of, b_row_of⟩, k_row_of⟩ := ok_row_of (P := P) T
  obtain ⟨⟨fd_w_say, F_w_say, b_w_say⟩, k_w_say⟩ := ok_w_say (P := P) T
  obtain ⟨⟨fd_w_seal, F_w_seal, b_w_seal⟩, k_w_seal⟩ := ok_w_seal (P := P) T
  refine ok_of (k := 5) T.f_w_come_to sc_w_come_to (fun vs H Q E h => ?_) (fun _ _ _ _ _ _ us hl => match us, hl with | [_, _, _], _ => rfl) (fun cdv A outer s H vs Q E hr h => ?_)
  · obtain ⟨p, n, s, q, rest, ds, mn, M, G, S, S', d, rfl, hi, _, _, ⟨m, n, l, x, rfl, _⟩, _⟩ := h
    rw [List.length_cons, hi.length]
    rfl
  · obtain ⟨p, n, s, q, rest, ds, mn, M, G, S, S', d, rfl, hi, hT, hW, ⟨m, nn, l, dn, rfl, hH, hl, hn, hd, hs, hsz, rfl, rfl⟩, hQ⟩ := h
    cases hi with | cons h1 hi => cases hi with | cons h2 hi =>
    cases hi
    rename_i vl vd
    refine ⟨_, (pss_cons (ps_set (i := 3) sc_w_come_to.nd rfl (Or.inl rfl) (pe_ifExp (pt_cmpR (r := rEqD K) (op_eqD hr.units) (pv 1) (pe_tup pa_nil) (nomark _)) (pe_tup pa_nil) (pe_call F_row_of (hr.mono (by decide)) (by rfl) T.g_row_of k_row_of b_row_of .nil pass0 (pa_cons (pe_fldK (K := K) rfl (pv 0) rfl) (pa_cons (pe_fldK (K := K) rfl (pv 0) rfl) (pa_cons (pv 1) pa_nil))))))
      (pss_one (ps_if (pt_cmpR (r := rEqD K) (op_eqD hr.units) (pv 2) (pe_callB (id := "len") (r := rLenX K) call_lenX (by rfl) T.g_len (by decide +kernel) (pa_cons (pv 3) pa_nil)) (nomark _)) (pss_cons (ps_if (pt_cmpR (r := rNeD K) (op_neD hr.units) (pe_fldK (K := K) rfl (pv 0) rfl) pe_str (nomark _)) (pss_one (ps_expr (pe_meth (pv 0) T.c_World T.m_w_say F_w_say (hr.mono (by decide)) b_w_say .nil pass0 (pa_cons (pv 1) (pa_cons (pe_ix (r := rIx K) ix_seq (pe_fldK (K := K) rfl (pv 0) rfl) pe_int (fun _ _ => rfl)) pa_nil))))) pss_nil)
        (pss_one (ps_fld (pv 0) (pe_tup (pa_cons pe_str (pa_cons (pv 1) pa_nil))) rfl))) (pss_one (ps_if (pt_cmpR (r := rEqD K) (op_eqD hr.units) (pe_fldK (K := K) rfl (pv 0) rfl) pe_str (nomark _)) (pss_one (ps_fld (pv 0) (pe_tup (pa_cons pe_str (pa_cons (pv 1) (pa_cons (pv 2) pa_nil)))) rfl)) (pss_cons (ps_set (i := 4) sc_w_come_to.nd rfl (Or.inl rfl) (pe_tup (pa_cons (pe_op (r := rAddX K) op_addX (pe_ix (r := rIx K) ix_seq (pe_fldK (K := K) rfl (pv 0) rfl) pe_int (fun _ _ => rfl)) pe_int) (pa_cons (pe_ix (r := rIx K) ix_seq (pv 3) (pv 2) (fun _ _ => rfl)) (pa_cons (pv 1) (pa_cons (pe_op (r := rAddX K) op_addX (pv 2) pe_int) pa_nil))))))
          (pss_cons (ps_expr (pe_meth (pv 0) T.c_World T.m_w_seal F_w_seal (hr.mono (by decide)) b_w_seal .nil pass0 (pa_cons (pv 4) pa_nil)))
          (pss_cons (ps_if (PW.pt (pw_and (pt_cmpR (r := rEqD K) (op_eqD hr.units) (pe_fldK (K := K) rfl (pv 0) rfl) pe_str (nomark _)) (pw_and1 (pt_cmpR (r := rEqD K) (op_eqD hr.units) (pe_op (r := rAddX K) op_addX (pv 2) pe_int) (pe_callB (id := "len") (r := rLenX K) call_lenX (by rfl) T.g_len (by decide +kernel) (pa_cons (pv 3) pa_nil)) (nomark _))))) (pss_one (ps_expr (pe_meth (pv 0) T.c_World T.m_w_say F_w_say (hr.mono (by decide)) b_w_say .nil pass0 (pa_cons (pv 1) (pa_cons (pe_ix (r := rIx K) ix_seq (pv 4) pe_int (fun _ _ => rfl)) pa_nil))))) pss_nil)
          (pss_one (ps_fld (pv 0) (pe_tup (pa_cons pe_str (pa_cons (pv 4) pa_nil))) rfl)))))))))), ?_⟩
    try dsimp only [cxOf, Cx.nox, Cx.wish]
    refine rd_start [some (.ref p), some vl, some vd, none, none] ?_
    refine q_set (K := K) (d := eL (rowT M G l)) (ed_if (et_test (ed_eqNil (ed_v h1))) (fun z => ?_) fun z => ?_) fun y H1 e1 hy => ?_
    · have z2 : l = [] := of_decide_eq_true z
      subst z2
      exact ed_tup (ds := []) ea_nil (by simp)
    · have z2 : l ≠ [] := of_decide_eq_false z
      have lr := last_row hH hl z2
      exact ed_call (ea_cons (ed_wMachine T ev_v hW) (ea_cons (ed_wTable T ev_v hW) (ea_cons (ed_v h1) ea_nil))) hT (by walk_at "kp") ⟨M, G, l, rowT M G l, rfl, by have := hl.2; omega, lr.1, rfl⟩
    · have hW1 := hW.to e1
      refine rd_start' [some (.ref p), some vl, some vd, some y, none] ?_
      refine st_if (k := decide (dn = (rowT M G l).length)) (EdT.is (et_test (ed_op (ed_v h2) (ed_lenT (ed_v hy)) rd_eqI)) ?_) (fun z H2 e2 => ?_) fun z H2 e2 => ?_
      · rw [List.length_map]
        exact decide_eq_decide.mpr (by omega)
      · have z2 := of_decide_eq_true z
        have hW2 := hW1.to e2
        unfold comeW at hQ
        rw [if_pos z2] at hQ
        refine q_if (k := decide (mn ≠ .early)) (et_test (ed_neMn .early (ed_wManner T ev_v hW2))) (fun z3 H4 e4 => ?_) fun z3 H4 e4 => ?_
        · have z4 := of_decide_eq_true z3
          rw [if_neg z4] at hQ
          have hW4 := hW2.to e4
          refine sd_wCall ev_v hW4 (ea_cons (ed_v h1) (ea_cons (ed_op (ed_wReading T ev_v hW4) ed_int (rd_ix (by rfl))) ea_nil)) hT (by walk_at "kp") ⟨m, nn, l, S.rd.1, rfl, hH, hl, by omega, hs, rfl, rfl⟩ fun H5 c5 hW5 => ?_
          dsimp only
          exact st_wStanding (g := .choice l) T (ed_tup (ea_cons ed_str (ea_cons (ed_v h1) ea_nil)) (by simp)) ev_v hW5 fun H6 c6 hW6 => hQ _ H6 ((e1.trans (e2.trans e4)).chg.trans (c5.trans (c6.mono (by simp)))) .non hW6
        · have z4 := Classical.not_not.mp (of_decide_eq_false z3)
          rw [if_pos z4] at hQ
          dsimp only [tNext]
          exact st_wStanding (g := .choice l) T (ed_tup (ea_cons ed_str (ea_cons (ed_v h1) ea_nil)) (by simp)) ev_v (hW2.to e4) fun H6 c6 hW6 => hQ _ H6 ((e1.trans (e2.trans e4)).chg.trans (c6.mono (by simp))) .non hW6
      · have z2 := of_decide_eq_false z
        have hd2 : dn < (rowT M G l).length := by omega
        have hW2 := hW1.to e2
        unfold comeW at hQ
        rw [if_neg z2] at hQ
        refine st_if (k := decide (mn = .late)) (et_test (ed_isMn .late (ed_wManner T ev_v hW2))) (fun z3 H3 e3 => ?_) fun z3 H3 e3 => ?_
        · rw [if_pos (of_decide_eq_true z3)] at hQ
          exact st_wStanding (g := .ready l dn) T (ed_tup (ea_cons ed_str (ea_cons (ed_v h1) (ea_cons (ed_v h2) ea_nil))) (by simp)) ev_v (hW2.to e3) fun H4 c4 hW4 => hQ _ H4 ((e1.trans (e2.trans e3)).chg.trans (c4.mono (by simp))) .non hW4
        · rw [if_neg (of_decide_eq_false z3)] at hQ
          have hW3 := hW2.to e3
          generalize hnt : (⟨S.rd.1 + 1, some ((rowT M G l).getD dn 0), l, dn + 1⟩ : Nt) = t at hQ
          have et : Dt.tup [.int ((S.rd.1 : Int) + 1), eN ((rowT M G l).getD dn 0), eL l, .int ((dn : Int) + 1)] = eNt t := by
            rw [← hnt]
            rfl
          refine q_set (Ed.is (ed_tup (ea_cons (ed_op (ed_op (ed_wReading T ev_v hW3) ed_int (rd_ix (by rfl))) ed_int rd_addI) (ea_cons (ed_op (ed_v hy) (ed_v h2) (rd_ix (at_map (getD_at hd2)))) (ea_cons (ed_v h1) (ea_cons (ed_op (ed_v h2) ed_int rd_addI) ea_nil)))) (by simp)) et) fun zz H4 e4 hz => ?_
          have hW4 := hW3.to e4
          refine rd_start' [some (.ref p), some vl, some vd, some y, some zz] ?_
          refine q_wCall ev_v hW4 (ea_cons (ed_v hz) ea_nil) hT (by walk_at "kp") ⟨t, rfl, by omega, rfl, rfl⟩ fun H5 c5 hW5 => ?_
          refine q_if (k := decide (mn = .early) && decide (dn + 1 = (rowT M G l).length)) (EdT.is (et_and (et_test (ed_isMn .early (ed_wManner T ev_v hW5))) fun _ => et_test (ed_op (ed_op (ed_v h2) ed_int rd_addI) (ed_lenT (ed_v hy)) rd_eqI)) ?_) (fun z5 H7 e7 => ?_) fun z5 H7 e7 => ?_
          · congr 1
            rw [List.length_map]
            exact decide_eq_decide.mpr (by omega)
          · rw [Bool.and_eq_true, decide_eq_true_iff, decide_eq_true_iff] at z5
            rw [if_pos z5] at hQ
            refine sd_wCall ev_v (hW5.to e7) (ea_cons (ed_v h1) (ea_cons (Ed.is (ed_op (ed_v hz) ed_int (rd_ix (by rfl))) (show eN t.n = eN (S.rd.1 + 1) by rw [← hnt])) ea_nil)) hT (by walk_at "kp") ⟨m, nn, l, S.rd.1 + 1, rfl, hH, hl, by omega, ?_, rfl, rfl⟩ fun H8 c8 hW8 => ?_
            · refine ⟨?_, hs.hd, hs.sp⟩
              show (if t ∈ S.shelf then S.shelf else S.shelf ++ [t]).length ≤ 90
              split
              · omega
              · simp
                omega
            · dsimp only
              exact st_wStanding (g := .laid t) T (ed_tup (ea_cons ed_str (ea_cons (ed_v hz) ea_nil)) (by simp)) ev_v hW8 fun H9 c9 hW9 => hQ _ H9 ((e1.trans (e2.trans (e3.trans e4))).chg.trans (c5.trans (e7.chg.trans (c8.trans (c9.mono (by simp)))))) .non hW9
          · have z6 : ¬ (mn = .early ∧ dn + 1 = (rowT M G l).length) := fun z => by simp [z.1, z.2] at z5
            rw [if_neg z6] at hQ
            dsimp only [tNext]
            exact st_wStanding (g := .laid t) T (ed_tup (ea_cons ed_str (ea_cons (ed_v hz) ea_nil)) (by simp)) ev_v (hW5.to e7) fun H9 c9 hW9 => hQ _ H9 ((e1.trans (e2.trans (e3.trans e4))).chg.trans (c5.trans (e7.chg.trans (c9.mono (by simp))))) .non hW9
end
end K29
set_option Elab.async false
set_option linter.all false
set_option maxRecDepth 100000
set_option maxHeartbeats 4000000
/-! the program's world: steps -/
namespace K29
open PySem PySem.Spec PyProof.Rows L2
local macro_rules | `(tactic| walk_at "kp") => `(tactic| first | exact Kp.refl _ | assumption | exact Chg.kp (by assumption) | (refine Kp.trans ?_ (Chg.kp (by assumption)); walk_at "kp"))
local macro_rules | `(tactic| walk_at "ext") => `(tactic| first | exact Ext.refl _ | assumption | (refine Ext.trans ?_ (by assumption); walk_at "ext"))

theorem any_range {α : Type} {l : List α} {f : α → Bool} {g : Nat → Bool} (h : ∀ j x, l[j]? = some x → g j = f x) : (List.range l.length).any g = l.any f := by
  rw [Bool.eq_iff_iff, List.any_eq_true, List.any_eq_true]
  constructor
  · rintro ⟨j, hj, e⟩
    have hj := List.mem_range.mp hj
    rw [h j l[j] (List.getElem?_eq_getElem hj)] at e
    exact ⟨l[j], List.getElem_mem hj, e⟩
  · rintro ⟨x, hx, e⟩
    obtain ⟨j, hj, ex⟩ := List.mem_iff_getElem.mp hx
    refine ⟨j, List.mem_range.mpr hj, ?_⟩
    rw [h j x (by rw [List.getElem?_eq_getElem hj, ex])]
    exact e
/-- a list's own answer at a place -/
def atB {α : Type} (l : List α) (f : α → Bool) (j : Nat) : Bool := match l[j]? with
  | some x => f x
  | none => false
theorem atB_eq {α : Type} {l : List α} {f : α → Bool} {j : Nat} {x : α} (h : l[j]? = some x) : atB l f j = f x := by
  unfold atB
  rw [h]
section
variable {P : Program} {w : World} {K : PySem.W.Frag} {mg : Str → Option Value} {base : Heap}
/-- a step that can be done is done -/
def StepR (st : Stp) (mn : Mn) (M : Mach) (G : Tbl) (S : WS) (d : Dt) (S' : WS) : Prop := ∃ m n : Nat, House M G m ∧ GoodW M G n S ∧ n ≤ 60 ∧ st ∈ canW M S ∧ d = .bl true ∧ S' = stepW mn M G S st
def R_w_boot (ds : List Dt) (mn : Mn) (M : Mach) (G : Tbl) (S : WS) (d : Dt) (S' : WS) : Prop := ∃ t : Nt, ds = [eNt t] ∧ StepR (.boot t) mn M G S d S'
theorem sc_w_boot : FnScope ["self", "note", "one"] ["self", "note"] (defScope s_w_boot) := ⟨rfl, rfl, rfl, by decide +kernel, rfl, by decide +kernel, by decide +kernel⟩
theorem ok_w_boot (T : Txt w K mg base) : Ok P w K mg base 8 ("World", some "boot") ["self", "note"] (SpW K (TL K) R_w_boot) := by
  obtain ⟨⟨fd_is_same_note, F_is_same_note, b_is_same_note⟩, k_is_same_note⟩ := ok_is_same_note (P := P) T
  obtain ⟨⟨fd_w_fits, F_w_fits, b_w_fits⟩, k_w_fits⟩ := ok_w_fits (P := P) T
  obtain ⟨⟨fd_w_come_to, F_w_come_to, b_w_come_to⟩, k_w_come_to⟩ := ok_w_come_to (P := P) T
  refine ok_ofC (k := 7) T.f_w_boot sc_w_boot (fun vs H Q E h => ?_) (fun _ _ _ _ _ _ us hl => match us, hl with | [_, _], _ => rfl) (fun A outer s H vs Q E hr h => ?_)
  · obtain ⟨p, n, s, q, rest, ds, mn, M, G, S, S', d, rfl, hi, _, _, ⟨t, rfl, _⟩, _⟩ := h
    rw [List.length_cons, hi.length]
    rfl
  · obtain ⟨p, n, s, q, rest, ds, mn, M, G, S, S', d, rfl, hi, hT, hW, ⟨t, rfl, m, nn, hH, hg, hn, hc, rfl, rfl⟩, hQ⟩ := h
    cases hi with | cons h1 hi =>
    cases hi
    rename_i vt
    have hoff : S.stand = .off ∧ t ∈ S.shelf := by
      unfold canW at hc
      cases hs : S.stand <;> rw [hs] at hc <;> simp at hc
      exact ⟨rfl, hc⟩
    have htn := hg.sh t hoff.2
    have hsm := hg.sm hn
    have hls := hg.ls
    refine ⟨_, (pss_cons (ps_if (PW.pt (pw_or (pt_cmpR (r := rNeD K) (op_neD hr.units) (pe_fldK (K := K) rfl (pv 0) rfl) (pe_gref (by rfl) T.g_OFF) (nomark _)) (pw_or1 (pt_not (pt_val (pe_anyG (own := [("one", 2)]) hr (by rfl) T.g_any (T.tb _ (by decide)) rfl sc_w_boot.nd ⟨rfl, rfl, by decide +kernel, rfl⟩ (blkOk_by (N := ["self", "note", "one"]) (sc := defScope s_w_boot) (by decide +kernel)) (pi_list (pe_fldK (K := K) rfl (pv 0) rfl)) (fun _ _ _ _ _ _ _ => (pg_name (i := 2) sc_w_boot.nd rfl (Or.inl rfl))) (fun _ _ _ _ _ _ _ hr => (pe_call F_is_same_note (hr.mono (by decide)) (by rfl) T.g_is_same_note k_is_same_note b_is_same_note .nil pass0 (pa_cons (pv 2) (pa_cons (pv 1) pa_nil)))))))))) (pss_one (ps_ret pe_bl)) pss_nil)
      (pss_cons (ps_if (pt_val (pe_meth (pv 0) T.c_World T.m_w_fits F_w_fits (hr.mono (by decide)) b_w_fits .nil pass0 (pa_cons (pv 1) pa_nil))) (pss_one (ps_expr (pe_meth (pv 0) T.c_World T.m_w_come_to F_w_come_to (hr.mono (by decide)) b_w_come_to .nil pass0 (pa_cons (pe_ix (r := rIx K) ix_seq (pv 1) pe_int (fun _ _ => rfl)) (pa_cons (pe_ix (r := rIx K) ix_seq (pv 1) pe_int (fun _ _ => rfl)) pa_nil))))) (pss_one (ps_fld (pv 0) (pe_gref (by rfl) T.g_MUTE) rfl)))
      (pss_one (ps_ret pe_bl)))), ?_⟩
    try dsimp only [cxOf, Cx.nox, Cx.wish]
    refine rd_start [some (.ref p), some vt, none] ?_
    have hstd := ed_wStanding (σ := [some (.ref p), some vt, none]) (ta := tVar 0) T (ev_v) hW
    rw [hoff.1] at hstd
    refine q_skip (EdT.is (et_or (et_test (ed_op hstd (ed_cst (im_off T)) (rd_ne (n := 3) (m := 3) (k := false) ok_eSg ok_eSg (by simp)))) fun _ => et_not (et_B (ed_anyL (el_wNotes T ev_v hW) (tabs_at hT) (by walk_at "kp") gm_name (atB S.shelf fun x => decide (x = t)) fun j v d H' e hd hv => ?_))) ?_) fun H1 e1 => ?_
    · rw [List.getElem?_map] at hd
      obtain ⟨x, hx, rfl⟩ := Option.map_eq_some_iff.mp hd
      exact gx_name rfl (ed_call (ea_cons (ed_v hv) (ea_cons (ed_v h1) ea_nil)) hT (by walk_at "kp") ⟨x, t, rfl, by have := htn.lv.2; omega, by rw [atB_eq hx]⟩)
    · rw [List.length_map, any_range (f := fun x => decide (x = t)) fun j x hx => atB_eq hx]
      have e : S.shelf.any (fun x => decide (x = t)) = true := List.any_eq_true.mpr ⟨t, hoff.2, by simp⟩
      rw [e]
      rfl
    · have hW1 := hW.to e1
      obtain ⟨tn, tk, tl, td⟩ := t
      refine q_if (k := fitsW mn S.rd ⟨tn, tk, tl, td⟩) (et_B (ed_wCallF ev_v hW1 (ea_cons (ed_v h1) ea_nil) hT (by walk_at "kp") ⟨_, rfl, rfl⟩)) (fun z H2 e2 => ?_) fun z H2 e2 => ?_
      · have hst : stepW mn M G S (.boot ⟨tn, tk, tl, td⟩) = comeW mn M G tl td S := by
          show (if fitsW mn S.rd ⟨tn, tk, tl, td⟩ = true then _ else _) = _
          rw [if_pos z]
        rw [hst] at hQ
        refine sd_wCall ev_v (hW1.to e2) (ea_cons (ed_op (ed_v h1) ed_int (rd_ix (by rfl))) (ea_cons (ed_op (ed_v h1) ed_int (rd_ix (by rfl))) ea_nil)) hT (by walk_at "kp") ⟨m, nn, tl, td, rfl, hH, htn.lv, by omega, htn.d, hsm, by omega, rfl, rfl⟩ fun H3 c3 hW3 => ?_
        dsimp only
        exact st_ret (K := K) ed_bl fun v H4 e4 hv => hQ v H4 ((e1.trans e2).chg.trans (c3.trans e4.chg)) hv (hW3.to e4)
      · have hst : stepW mn M G S (.boot ⟨tn, tk, tl, td⟩) = { S with stand := .mute } := by
          show (if fitsW mn S.rd ⟨tn, tk, tl, td⟩ = true then _ else _) = _
          rw [if_neg (by rw [z]; exact Bool.false_ne_true)]
        rw [hst] at hQ
        refine st_wStanding (g := .mute) T (ed_cst (im_mute T)) ev_v (hW1.to e2) fun H3 c3 hW3 => ?_
        dsimp only
        exact st_ret (K := K) ed_bl fun v H4 e4 hv => hQ v H4 ((e1.trans e2).chg.trans ((c3.mono (by simp)).trans e4.chg)) hv (hW3.to e4)
def R_w_ask (ds : List Dt) (mn : Mn) (M : Mach) (G : Tbl) (S : WS) (d : Dt) (S' : WS) : Prop := ∃ o : Nat, ds = [eN o] ∧ StepR (.ask o) mn M G S d S'
theorem sc_w_ask : FnScope ["self", "option", "life"] ["self", "option"] (defScope s_w_ask) := ⟨rfl, rfl, rfl, by decide +kernel, rfl, by decide +kernel, by decide +kernel⟩
theorem ok_w_ask (T : Txt w K mg base) : Ok P w K mg base 8 ("World", some "ask") ["self", "option"] (SpW K (TL K) R_w_ask) := by
  obtain ⟨⟨fd_is_number, F_is_number, b_is_number⟩, k_is_number⟩ := ok_is_number (P := P) T
  obtain ⟨⟨fd_state_behind, F_state_behind, b_state_behind⟩, k_state_behind⟩ := ok_state_behind (P := P) T
  obtain ⟨⟨fd_w_come_to, F_w_come_to, b_w_come_to⟩, k_w_come_to⟩ := ok_w_come_to (P := P) T
  refine ok_of (k := 7) T.f_w_ask sc_w_ask (fun vs H Q E h => ?_) (fun _ _ _ _ _ _ us hl => match us, hl with | [_, _], _ => rfl) (fun cdv A outer s H vs Q E hr h => ?_)
  · obtain ⟨p, n, s, q, rest, ds, mn, M, G, S, S', d, rfl, hi, _, _, ⟨t, rfl, _⟩, _⟩ := h
    rw [List.length_cons, hi.length]
    rfl
  · obtain ⟨p, n, s, q, rest, ds, mn, M, G, S, S', d, rfl, hi, hT, hW, ⟨o, rfl, m, nn, hH, hg, hn, hc, rfl, rfl⟩, hQ⟩ := h
    cases hi with | cons h1 hi =>
    cases hi
    rename_i vo
    obtain ⟨l, hs, ho⟩ : ∃ l, S.stand = .choice l ∧ o < optsN M l := by
      unfold canW at hc
      cases hs : S.stand <;> rw [hs] at hc <;> simp at hc
      exact ⟨_, rfl, hc⟩
    have hsg := hg.sg
    rw [hs] at hsg
    have hsm := hg.sm hn
    have hls := hg.ls
    have hl2 := ask_life hH hsg ho
    have hst : stepW mn M G S (.ask o) = comeW mn M G (l ++ [o]) 0 S := by
      unfold stepW
      rw [hs]
    rw [hst] at hQ
    obtain ⟨⟨s0, hgo⟩, hz⟩ : LvN M nn l := hsg
    have hsl := go_lt hH (by have := hH.ne; omega) hgo
    have hst0 : M[s0]? = some M[s0] := List.getElem?_eq_getElem hsl
    have hop : optsN M l = M[s0].length := by
      unfold optsN
      rw [hgo, Option.bind_some, hst0]
      rfl
    refine ⟨_, (pss_cons (ps_if (pt_cmpR (r := rNeD K) (op_neD hr.units) (pe_ix (r := rIx K) ix_seq (pe_fldK (K := K) rfl (pv 0) rfl) pe_int (fun _ _ => rfl)) pe_str (nomark _)) (pss_one (ps_ret pe_bl)) pss_nil)
      (pss_cons (ps_set (i := 2) sc_w_ask.nd rfl (Or.inl rfl) (pe_ix (r := rIx K) ix_seq (pe_fldK (K := K) rfl (pv 0) rfl) pe_int (fun _ _ => rfl)))
      (pss_cons (ps_if (pt_not (pt_val (pe_call F_is_number (hr.mono (by decide)) (by rfl) T.g_is_number k_is_number b_is_number .nil pass0 (pa_cons (pv 1) (pa_cons pe_int (pa_cons (pe_op op_subX (pe_callB (id := "len") (r := rLenX K) call_lenX (by rfl) T.g_len (by decide +kernel) (pa_cons (pe_ix (r := rIx K) ix_seq (pe_fldK (K := K) rfl (pv 0) rfl) (pe_call F_state_behind (hr.mono (by decide)) (by rfl) T.g_state_behind k_state_behind b_state_behind .nil pass0 (pa_cons (pe_fldK (K := K) rfl (pv 0) rfl) (pa_cons (pv 2) pa_nil))) (fun _ _ => rfl)) pa_nil)) pe_int) pa_nil)))))) (pss_one (ps_ret pe_bl)) pss_nil)
      (pss_cons (ps_expr (pe_meth (pv 0) T.c_World T.m_w_come_to F_w_come_to (hr.mono (by decide)) b_w_come_to .nil pass0 (pa_cons (pe_op (r := rAddX K) op_addX (pv 2) (pe_tup (pa_cons (pv 1) pa_nil))) (pa_cons pe_int pa_nil))))
      (pss_one (ps_ret pe_bl)))))), ?_⟩
    try dsimp only [cxOf, Cx.nox, Cx.wish]
    refine rd_start [some (.ref p), some vo, none] ?_
    have hstd : ∀ (σ : L2.St) H', Ext H H' → σ[0]? = some (some (.ref p)) → Ed K (tFld K (tVar 0) "standing") σ H' (eSg (.choice l)) := fun σ H' e h0 => by
      have := ed_wStanding T (ev_var h0) (hW.to e)
      rwa [hs] at this
    refine q_skip (et_test (ed_op (ed_keyG (hstd _ _ (Ext.refl _) rfl)) ed_str (rd_neS (x := "choice") (by decide +kernel) (by decide +kernel)))) fun H1 e1 => ?_
    refine q_set (ed_op (hstd _ _ e1 rfl) ed_int (rd_ix (by rfl))) fun y H2 e2 hy0 => ?_
    have hy : Im K H2 y (eL l) := hy0
    refine rd_start' [some (.ref p), some vo, some y] ?_
    have hW2 := (hW.to e1).to e2
    refine q_skip (EdT.is (et_not (et_B (ed_call (ea_cons (ed_v h1) (ea_cons ed_int (ea_cons (ed_op (ed_lenT (ed_op (ed_wMachine T ev_v hW2) (ed_call (ea_cons (ed_wMachine T ev_v hW2) (ea_cons (ed_v hy) ea_nil)) hT (by walk_at "kp") ⟨M, l, s0, rfl, by omega, hgo, rfl⟩) (rd_ix (at_map hst0)))) ed_int rd_sub) ea_nil))) hT (by walk_at "kp") ⟨_, _, _, rfl, rfl⟩))) ?_) fun H3 e3 => ?_
    · rw [List.length_map]
      have h5 : (0 : Int) ≤ (o : Int) := by omega
      have h6 : (o : Int) ≤ (M[s0].length : Int) - 1 := by omega
      simp [h5, h6]
    · refine q_wCall ev_v (hW2.to e3) (ea_cons (Ed.is (ed_op (ed_v hy) (ed_tup (ea_cons (ed_v h1) ea_nil) (by simp)) (rd_addT (ds := l.map eN) (es := [eN o]) (by rw [List.length_map]; simp; omega))) (show _ = eL (l ++ [o]) by unfold eL; rw [List.map_append]; rfl)) (ea_cons ed_int ea_nil)) hT (by walk_at "kp") ⟨m, nn + 1, l ++ [o], 0, rfl, hH, hl2, by omega, Nat.zero_le _, hsm, by omega, rfl, rfl⟩ fun H4 c4 hW4 => ?_
      exact st_ret (K := K) ed_bl fun v H5 e5 hv => hQ v H5 ((e1.trans (e2.trans e3)).chg.trans (c4.trans e5.chg)) hv (hW4.to e5)
def R_w_turn (ds : List Dt) (mn : Mn) (M : Mach) (G : Tbl) (S : WS) (d : Dt) (S' : WS) : Prop := ds = [] ∧ StepR .turn mn M G S d S'
theorem sc_w_turn : FnScope ["self", "note", "life", "done"] ["self"] (defScope s_w_turn) := ⟨rfl, rfl, rfl, by decide +kernel, rfl, by decide +kernel, by decide +kernel⟩
theorem ok_w_turn (T : Txt w K mg base) : Ok P w K mg base 8 ("World", some "turn") ["self"] (SpW K (TL K) R_w_turn) := by
  obtain ⟨⟨fd_w_come_to, F_w_come_to, b_w_come_to⟩, k_w_come_to⟩ := ok_w_come_to (P := P) T
  obtain ⟨⟨fd_row_of, F_row_of, b_row_of⟩, k_row_of⟩ := ok_row_of (P := P) T
  refine ok_of (k := 7) T.f_w_turn sc_w_turn (fun vs H Q E h => ?_) (fun _ _ _ _ _ _ us hl => match us, hl with | [_], _ => rfl) (fun cdv A outer s H vs Q E hr h => ?_)
  · obtain ⟨p, n, s, q, rest, ds, mn, M, G, S, S', d, rfl, hi, _, _, ⟨rfl, _⟩, _⟩ := h
    rw [List.length_cons, hi.length]
    rfl
  · obtain ⟨p, n, s, q, rest, ds, mn, M, G, S, S', d, rfl, hi, hT, hW, ⟨rfl, m, nn, hH, hg, hn, hc, rfl, rfl⟩, hQ⟩ := h
    cases hi
    have hstand : (∃ t, S.stand = .laid t) ∨ ∃ l d, S.stand = .ready l d := by
      unfold canW at hc
      cases hs : S.stand <;> rw [hs] at hc <;> simp at hc
      · exact .inr ⟨_, _, rfl⟩
      · exact .inl ⟨_, rfl⟩
    have hsg := hg.sg
    have hsm := hg.sm hn
    have hls := hg.ls
    refine ⟨_, (pss_cons (ps_if (pt_cmpR (r := rEqD K) (op_eqD hr.units) (pe_ix (r := rIx K) ix_seq (pe_fldK (K := K) rfl (pv 0) rfl) pe_int (fun _ _ => rfl)) pe_str (nomark _)) (pss_cons (ps_set (i := 1) sc_w_turn.nd rfl (Or.inl rfl) (pe_ix (r := rIx K) ix_seq (pe_fldK (K := K) rfl (pv 0) rfl) pe_int (fun _ _ => rfl)))
        (pss_cons (ps_fld (pv 0) (pe_tup (pa_cons (pe_op (r := rAddX K) op_addX (pe_ix (r := rIx K) ix_seq (pe_fldK (K := K) rfl (pv 0) rfl) pe_int (fun _ _ => rfl)) pe_int) (pa_cons (pe_ix (r := rIx K) ix_seq (pv 1) pe_int (fun _ _ => rfl)) pa_nil))) rfl)
        (pss_one (ps_expr (pe_meth (pv 0) T.c_World T.m_w_come_to F_w_come_to (hr.mono (by decide)) b_w_come_to .nil pass0 (pa_cons (pe_ix (r := rIx K) ix_seq (pv 1) pe_int (fun _ _ => rfl)) (pa_cons (pe_ix (r := rIx K) ix_seq (pv 1) pe_int (fun _ _ => rfl)) pa_nil))))))) (pss_one (ps_if (pt_cmpR (r := rEqD K) (op_eqD hr.units) (pe_ix (r := rIx K) ix_seq (pe_fldK (K := K) rfl (pv 0) rfl) pe_int (fun _ _ => rfl)) pe_str (nomark _)) (pss_cons (ps_asg (pe_slice (r := rSlX K) sl_X (pe_fldK (K := K) rfl (pv 0) rfl) (po_some pe_int) po_none) (pg_tup rfl (pgs_cons (pg_name (i := 2) sc_w_turn.nd rfl (Or.inl rfl)) (pgs_cons (pg_name (i := 3) sc_w_turn.nd rfl (Or.inl rfl)) pgs_nil))))
          (pss_cons (ps_fld (pv 0) (pe_tup (pa_cons (pe_op (r := rAddX K) op_addX (pe_ix (r := rIx K) ix_seq (pe_fldK (K := K) rfl (pv 0) rfl) pe_int (fun _ _ => rfl)) pe_int) (pa_cons (pe_ix (r := rIx K) ix_seq (pe_call F_row_of (hr.mono (by decide)) (by rfl) T.g_row_of k_row_of b_row_of .nil pass0 (pa_cons (pe_fldK (K := K) rfl (pv 0) rfl) (pa_cons (pe_fldK (K := K) rfl (pv 0) rfl) (pa_cons (pv 2) pa_nil)))) (pv 3) (fun _ _ => rfl)) pa_nil))) rfl)
          (pss_one (ps_fld (pv 0) (pe_tup (pa_cons pe_str (pa_cons (pv 2) (pa_cons (pe_op (r := rAddX K) op_addX (pv 3) pe_int) pa_nil)))) rfl)))) (pss_one (ps_ret pe_bl)))))
      (pss_one (ps_ret pe_bl))), ?_⟩
    try dsimp only [cxOf, Cx.nox, Cx.wish]
    refine rd_start [some (.ref p), none, none, none] ?_
    have hstd : ∀ (σ : L2.St) H', Ext H H' → σ[0]? = some (some (.ref p)) → Ed K (tFld K (tVar 0) "standing") σ H' (eSg S.stand) := fun σ H' e h0 => ed_wStanding T (ev_var h0) (hW.to e)
    rcases hstand with ⟨t, hs⟩ | ⟨l, dn, hs⟩
    · rw [hs] at hsg hstd
      have hst : stepW mn M G S .turn = comeW mn M G t.l t.d { S with rd := (S.rd.1 + 1, t.k) } := by
        unfold stepW
        rw [hs]
      rw [hst] at hQ
      have htn : NtN M G nn t := hsg
      refine q_if (k := true) (et_keyG (hstd _ _ (Ext.refl _) rfl) (by decide +kernel) (by rfl)) (fun _ H1 e1 => ?_) fun z => by cases z
      refine q_set (ed_op (hstd _ _ e1 rfl) ed_int (rd_ix (by rfl))) fun y H2 e2 hy0 => ?_
      have hy : Im K H2 y (eNt t) := hy0
      refine rd_start' [some (.ref p), some y, none, none] ?_
      have hW2 := (hW.to e1).to e2
      obtain ⟨tn, tk, tl, td⟩ := t
      refine q_wReading (r := (S.rd.1 + 1, tk)) T (Ed.is (ed_tup (ea_cons (ed_op (ed_op (ed_wReading T ev_v hW2) ed_int (rd_ix (by rfl))) ed_int rd_addI) (ea_cons (ed_op (ed_v hy) ed_int (rd_ix (by rfl))) ea_nil)) (by simp)) (by rfl)) ev_v hW2 fun H3 c3 hW3 => ?_
      refine sd_wCall ev_v hW3 (ea_cons (ed_op (ed_v hy) ed_int (rd_ix (by rfl))) (ea_cons (ed_op (ed_v hy) ed_int (rd_ix (by rfl))) ea_nil)) hT (by walk_at "kp") ⟨m, nn, tl, td, rfl, hH, htn.lv, by omega, htn.d, ⟨hsm.sh, hsm.hd, hsm.sp⟩, by show S.shelf.length ≤ 85; omega, rfl, rfl⟩ fun H4 c4 hW4 => ?_
      dsimp only
      exact st_ret (K := K) ed_bl fun v H5 e5 hv => hQ v H5 ((e1.trans e2).chg.trans ((c3.mono (by simp)).trans (c4.trans e5.chg))) hv (hW4.to e5)
    · rw [hs] at hsg hstd
      have hst : stepW mn M G S .turn = { S with rd := (S.rd.1 + 1, some ((rowT M G l).getD dn 0)), stand := .bare l (dn + 1) } := by
        unfold stepW
        rw [hs]
      rw [hst] at hQ
      obtain ⟨hlv, hd⟩ : LvN M nn l ∧ dn < (rowT M G l).length := hsg
      have hne : l ≠ [] := fun z => by
        subst z
        exact absurd hd (Nat.not_lt_zero _)
      have lr := last_row hH hlv hne
      refine q_if (k := false) (et_keyG (hstd _ _ (Ext.refl _) rfl) (by decide +kernel) (by rfl)) (fun z => by cases z) fun _ H1 e1 => ?_
      refine st_if (k := true) (et_keyG (hstd _ _ e1 rfl) (by decide +kernel) (by rfl)) (fun _ H2 e2 => ?_) fun z => by cases z
      have e3 : cutD [Dt.str "ready", eL l, eN dn] (some ((1 : Int))) none = [eL l, eN dn] := by rfl
      refine q_seq ((Ed.is (ed_sl (hstd _ _ (e1.trans e2) rfl) (eo_some (K := K) ed_int) eo_none) (congrArg Dt.tup e3)) H2 (Ext.refl _) _ fun v H3 e3 hv => g_pair hv fun x y hx hy => ?_)
      refine rd_start' [some (.ref p), none, some x, some y] ?_
      have hW3 := (hW.to (e1.trans e2)).to e3
      refine q_wReading (r := (S.rd.1 + 1, some ((rowT M G l).getD dn 0))) T (Ed.is (ed_tup (ea_cons (ed_op (ed_op (ed_wReading T ev_v hW3) ed_int (rd_ix (by rfl))) ed_int rd_addI) (ea_cons (ed_op (ed_call (ea_cons (ed_wMachine T ev_v hW3) (ea_cons (ed_wTable T ev_v hW3) (ea_cons (ed_v hx) ea_nil))) hT (by walk_at "kp") ⟨M, G, l, rowT M G l, rfl, by have := hlv.2; omega, lr.1, rfl⟩) (ed_v hy) (rd_ix (at_map (getD_at hd)))) ea_nil)) (by simp)) (by rfl)) ev_v hW3 fun H4 c4 hW4 => ?_
      refine st_wStanding (g := .bare l (dn + 1)) T (Ed.is (ed_tup (ea_cons ed_str (ea_cons (ed_v hx) (ea_cons (ed_op (ed_v hy) ed_int rd_addI) ea_nil))) (by simp)) (by rfl)) ev_v hW4 fun H5 c5 hW5 => ?_
      dsimp only
      exact st_ret (K := K) ed_bl fun v H6 e6 hv => hQ v H6 ((e1.trans (e2.trans e3)).chg.trans ((c4.mono (by simp)).trans ((c5.mono (by simp)).trans e6.chg))) hv (hW5.to e6)
def R_w_seal_late (ds : List Dt) (mn : Mn) (M : Mach) (G : Tbl) (S : WS) (d : Dt) (S' : WS) : Prop := ds = [] ∧ StepR .put mn M G S d S'
theorem sc_w_seal_late : FnScope ["self", "life", "done"] ["self"] (defScope s_w_seal_late) := ⟨rfl, rfl, rfl, by decide +kernel, rfl, by decide +kernel, by decide +kernel⟩
theorem ok_w_seal_late (T : Txt w K mg base) : Ok P w K mg base 8 ("World", some "seal_late") ["self"] (SpW K (TL K) R_w_seal_late) := by
  obtain ⟨⟨fd_w_seal, F_w_seal, b_w_seal⟩, k_w_seal⟩ := ok_w_seal (P := P) T
  obtain ⟨⟨fd_w_come_to, F_w_come_to, b_w_come_to⟩, k_w_come_to⟩ := ok_w_come_to (P := P) T
  refine ok_of (k := 7) T.f_w_seal_late sc_w_seal_late (fun vs H Q E h => ?_) (fun _ _ _ _ _ _ us hl => match us, hl with | [_], _ => rfl) (fun cdv A outer s H vs Q E hr h => ?_)
  · obtain ⟨p, n, s, q, rest, ds, mn, M, G, S, S', d, rfl, hi, _, _, ⟨rfl, _⟩, _⟩ := h
    rw [List.length_cons, hi.length]
    rfl
  · obtain ⟨p, n, s, q, rest, ds, mn, M, G, S, S', d, rfl, hi, hT, hW, ⟨rfl, m, nn, hH, hg, hn, hc, rfl, rfl⟩, hQ⟩ := h
    cases hi
    obtain ⟨l, dn, hs⟩ : ∃ l d, S.stand = .bare l d := by
      unfold canW at hc
      cases hs : S.stand <;> rw [hs] at hc <;> simp at hc
      exact ⟨_, _, rfl⟩
    have hsg := hg.sg
    have hsm := hg.sm hn
    have hls := hg.ls
    rw [hs] at hsg
    obtain ⟨hlv, hd⟩ : LvN M nn l ∧ dn ≤ (rowT M G l).length := hsg
    have hst : stepW mn M G S .put = comeW mn M G l dn (putW ⟨S.rd.1, S.rd.2, l, dn⟩ S) := by
      unfold stepW
      rw [hs]
    rw [hst] at hQ
    have hp2 : (putW ⟨S.rd.1, S.rd.2, l, dn⟩ S).shelf.length ≤ 85 := by
      unfold putW
      dsimp only
      split
      · omega
      · simp
        omega
    refine ⟨_, (pss_cons (ps_if (pt_cmpR (r := rNeD K) (op_neD hr.units) (pe_ix (r := rIx K) ix_seq (pe_fldK (K := K) rfl (pv 0) rfl) pe_int (fun _ _ => rfl)) pe_str (nomark _)) (pss_one (ps_ret pe_bl)) pss_nil)
      (pss_cons (ps_asg (pe_slice (r := rSlX K) sl_X (pe_fldK (K := K) rfl (pv 0) rfl) (po_some pe_int) po_none) (pg_tup rfl (pgs_cons (pg_name (i := 1) sc_w_seal_late.nd rfl (Or.inl rfl)) (pgs_cons (pg_name (i := 2) sc_w_seal_late.nd rfl (Or.inl rfl)) pgs_nil))))
      (pss_cons (ps_expr (pe_meth (pv 0) T.c_World T.m_w_seal F_w_seal (hr.mono (by decide)) b_w_seal .nil pass0 (pa_cons (pe_op (r := rAddX K) op_addX (pe_fldK (K := K) rfl (pv 0) rfl) (pe_tup (pa_cons (pv 1) (pa_cons (pv 2) pa_nil)))) pa_nil)))
      (pss_cons (ps_expr (pe_meth (pv 0) T.c_World T.m_w_come_to F_w_come_to (hr.mono (by decide)) b_w_come_to .nil pass0 (pa_cons (pv 1) (pa_cons (pv 2) pa_nil))))
      (pss_one (ps_ret pe_bl)))))), ?_⟩
    try dsimp only [cxOf, Cx.nox, Cx.wish]
    refine rd_start [some (.ref p), none, none] ?_
    have hstd : ∀ (σ : L2.St) H', Ext H H' → σ[0]? = some (some (.ref p)) → Ed K (tFld K (tVar 0) "standing") σ H' (eSg (.bare l dn)) := fun σ H' e h0 => by
      have := ed_wStanding T (ev_var h0) (hW.to e)
      rwa [hs] at this
    refine q_skip (et_test (ed_op (ed_keyG (hstd _ _ (Ext.refl _) rfl)) ed_str (rd_neS (x := "bare") (by decide +kernel) (by decide +kernel)))) fun H1 e1 => ?_
    have e3 : cutD [Dt.str "bare", eL l, eN dn] (some ((1 : Int))) none = [eL l, eN dn] := by rfl
    refine q_seq ((Ed.is (ed_sl (hstd _ _ e1 rfl) (eo_some (K := K) ed_int) eo_none) (congrArg Dt.tup e3)) H1 (Ext.refl _) _ fun v H3 e3 hv => g_pair hv fun x y hx hy => ?_)
    refine rd_start' [some (.ref p), some x, some y] ?_
    have hW3 := (hW.to e1).to e3
    refine q_wCall ev_v hW3 (ea_cons (Ed.is (ed_op (ed_wReading T ev_v hW3) (ed_tup (ea_cons (ed_v hx) (ea_cons (ed_v hy) ea_nil)) (by simp)) (rd_addT (ds := [eN S.rd.1, eK S.rd.2]) (by simp))) (show _ = eNt ⟨S.rd.1, S.rd.2, l, dn⟩ by rfl)) ea_nil) hT (by walk_at "kp") ⟨_, rfl, by omega, rfl, rfl⟩ fun H4 c4 hW4 => ?_
    refine q_wCall ev_v hW4 (ea_cons (ed_v hx) (ea_cons (ed_v hy) ea_nil)) hT (by walk_at "kp") ⟨m, nn, l, dn, rfl, hH, hlv, by omega, hd, ⟨by omega, hsm.hd, hsm.sp⟩, hp2, rfl, rfl⟩ fun H5 c5 hW5 => ?_
    exact st_ret (K := K) ed_bl fun v H6 e6 hv => hQ v H6 ((e1.trans e3).chg.trans (c4.trans (c5.trans e6.chg))) hv (hW5.to e6)
def R_w_cut (ds : List Dt) (mn : Mn) (M : Mach) (G : Tbl) (S : WS) (d : Dt) (S' : WS) : Prop := ds = [] ∧ StepR .cut mn M G S d S'
theorem sc_w_cut : FnScope ["self"] ["self"] (defScope s_w_cut) := ⟨rfl, rfl, rfl, by decide +kernel, rfl, by decide +kernel, by decide +kernel⟩
theorem ok_w_cut (T : Txt w K mg base) : Ok P w K mg base 2 ("World", some "cut") ["self"] (SpW K (TL K) R_w_cut) := by
  refine ok_of (k := 1) T.f_w_cut sc_w_cut (fun vs H Q E h => ?_) (fun _ _ _ _ _ _ us hl => match us, hl with | [_], _ => rfl) (fun cdv A outer s H vs Q E hr h => ?_)
  · obtain ⟨p, n, s, q, rest, ds, mn, M, G, S, S', d, rfl, hi, _, _, ⟨rfl, _⟩, _⟩ := h
    rw [List.length_cons, hi.length]
    rfl
  · obtain ⟨p, n, s, q, rest, ds, mn, M, G, S, S', d, rfl, hi, hT, hW, ⟨rfl, m, nn, hH, hg, hn, hc, rfl, rfl⟩, hQ⟩ := h
    cases hi
    have hs : S.stand ≠ .off := fun z => by
      unfold canW at hc
      rw [z] at hc
      simp at hc
    refine ⟨_, (pss_cons (ps_if (pt_cmpR (r := rEqD K) (op_eqD hr.units) (pe_fldK (K := K) rfl (pv 0) rfl) (pe_gref (by rfl) T.g_OFF) (nomark _)) (pss_one (ps_ret pe_bl)) pss_nil)
      (pss_cons (ps_fld (pv 0) (pe_gref (by rfl) T.g_OFF) rfl)
      (pss_one (ps_ret pe_bl)))), ?_⟩
    try dsimp only [cxOf, Cx.nox, Cx.wish]
    refine rd_start [some (.ref p)] ?_
    refine q_skip (et_test (ed_op (ed_wStanding T ev_v hW) (ed_cst (im_off T)) (rd_eq (n := 3) (m := 3) ok_eSg ok_eSg (by simp [eSg_inj, hs])))) fun H1 e1 => ?_
    refine q_wStanding (g := .off) T (ed_cst (im_off T)) ev_v (hW.to e1) fun H2 c2 hW2 => ?_
    exact st_ret (K := K) ed_bl fun v H6 e6 hv => hQ v H6 (e1.chg.trans ((c2.mono (by simp)).trans e6.chg)) hv (hW2.to e6)
end
end K29
set_option Elab.async false
set_option linter.all false
set_option maxRecDepth 100000
set_option maxHeartbeats 4000000
/-! the program's world: do, dead, pairs; a new one, a twin -/
namespace K29
open PySem PySem.Spec PyProof.Rows L2
local macro_rules | `(tactic| walk_at "kp") => `(tactic| first | exact Kp.refl _ | assumption | exact Chg.kp (by assumption) | (refine Kp.trans ?_ (Chg.kp (by assumption)); walk_at "kp"))
local macro_rules | `(tactic| walk_at "ext") => `(tactic| first | exact Ext.refl _ | assumption | (refine Ext.trans ?_ (by assumption); walk_at "ext"))

section
variable {K : PySem.W.Frag} {H H' H0 H1 H2 : Hp} {σ : L2.St} {te td tv ta tb : TE} {t : TT} {Q : VK}
theorem r_if1 (h : EdT t σ H true) (k : ∀ H1, Ext H H1 → ta σ H1 Q) : tIf t ta tb σ H Q := h H (Ext.refl H) _ fun H1 e => by
  rw [if_pos rfl]
  exact k H1 e
theorem r_if0 (h : EdT t σ H false) (k : ∀ H1, Ext H H1 → tb σ H1 Q) : tIf t ta tb σ H Q := h H (Ext.refl H) _ fun H1 e => by
  rw [if_neg Bool.false_ne_true]
  exact k H1 e
theorem r_and1 (h : Ed K ta σ H (.bl true)) (k : ∀ H1, Ext H H1 → tb σ H1 Q) : tAndV ta tb σ H Q := h H (Ext.refl H) _ fun v H1 e hv => by
  cases hv
  refine ⟨true, rfl, ?_⟩
  rw [if_pos rfl]
  exact k H1 e
theorem r_ret {D : Ends} (h : te σ H D.rt) : tRet te D σ H := h
end
section
variable {P : Program} {w : World} {K : PySem.W.Frag} {mg : Str → Option Value} {base : Heap}
def R_w_do (ds : List Dt) (mn : Mn) (M : Mach) (G : Tbl) (S : WS) (d : Dt) (S' : WS) : Prop := ∃ st : Stp, ds = [eStp st] ∧ StepR st mn M G S d S'
theorem sc_w_do : FnScope ["self", "step"] ["self", "step"] (defScope s_w_do) := ⟨rfl, rfl, rfl, by decide +kernel, rfl, by decide +kernel, by decide +kernel⟩
theorem ok_w_do (T : Txt w K mg base) : Ok P w K mg base 10 ("World", some "do") ["self", "step"] (SpW K (TL K) R_w_do) := by
  obtain ⟨⟨fd_w_boot, F_w_boot, b_w_boot⟩, k_w_boot⟩ := ok_w_boot (P := P) T
  obtain ⟨⟨fd_w_ask, F_w_ask, b_w_ask⟩, k_w_ask⟩ := ok_w_ask (P := P) T
  obtain ⟨⟨fd_w_turn, F_w_turn, b_w_turn⟩, k_w_turn⟩ := ok_w_turn (P := P) T
  obtain ⟨⟨fd_w_cut, F_w_cut, b_w_cut⟩, k_w_cut⟩ := ok_w_cut (P := P) T
  obtain ⟨⟨fd_w_seal_late, F_w_seal_late, b_w_seal_late⟩, k_w_seal_late⟩ := ok_w_seal_late (P := P) T
  refine ok_of (k := 9) T.f_w_do sc_w_do (fun vs H Q E h => ?_) (fun _ _ _ _ _ _ us hl => match us, hl with | [_, _], _ => rfl) (fun cdv A outer s H vs Q E hr h => ?_)
  · obtain ⟨p, n, s, q, rest, ds, mn, M, G, S, S', d, rfl, hi, _, _, ⟨t, rfl, _⟩, _⟩ := h
    rw [List.length_cons, hi.length]
    rfl
  · obtain ⟨p, n, s, q, rest, ds, mn, M, G, S, S', d, rfl, hi, hT, hW, ⟨st, rfl, hst⟩, hQ⟩ := h
    cases hi with | cons h1 hi =>
    cases hi
    rename_i vs
    refine ⟨_, (pss_cons (ps_if (PW.pt (pw_or (pt_not (pt_val (pe_callB (id := "isinstance") (r := rIsiX K) call_isiX (by rfl) T.g_isinstance (by decide +kernel) (pa_cons (pv 1) (pa_cons (pe_gty (T := "tuple") (by rfl) T.g_tuple) pa_nil))))) (pw_or (pt_not (pt_chain op_leX op_leX pe_int (pe_callB (id := "len") (r := rLenX K) call_lenX (by rfl) T.g_len (by decide +kernel) (pa_cons (pv 1) pa_nil)) pe_int)) (pw_or1 (pt_not (pt_val (pe_callB (id := "isinstance") (r := rIsiX K) call_isiX (by rfl) T.g_isinstance (by decide +kernel) (pa_cons (pe_ix (r := rIx K) ix_seq (pv 1) pe_int (fun _ _ => rfl)) (pa_cons (pe_gty (T := "str") (by rfl) T.g_str) pa_nil))))))))) (pss_one (ps_ret pe_bl)) pss_nil)
      (pss_cons (ps_if (pt_cmpR (r := rEqD K) (op_eqD hr.units) (pe_callB (id := "len") (r := rLenX K) call_lenX (by rfl) T.g_len (by decide +kernel) (pa_cons (pv 1) pa_nil)) pe_int (nomark _)) (pss_one (ps_ret (pe_ifExp (pt_cmpR (r := rEqD K) (op_eqD hr.units) (pe_ix (r := rIx K) ix_seq (pv 1) pe_int (fun _ _ => rfl)) pe_str (nomark _)) (pe_meth (pv 0) T.c_World T.m_w_boot F_w_boot (hr.mono (by decide)) b_w_boot .nil pass0 (pa_cons (pe_ix (r := rIx K) ix_seq (pv 1) pe_int (fun _ _ => rfl)) pa_nil)) (pe_and (pe_cmpR (r := rEqD K) (op_eqD hr.units) (pe_ix (r := rIx K) ix_seq (pv 1) pe_int (fun _ _ => rfl)) pe_str (nomark _)) (pe_one (pe_meth (pv 0) T.c_World T.m_w_ask F_w_ask (hr.mono (by decide)) b_w_ask .nil pass0 (pa_cons (pe_ix (r := rIx K) ix_seq (pv 1) pe_int (fun _ _ => rfl)) pa_nil))))))) pss_nil)
      (pss_cons (ps_if (pt_cmpR (r := rEqD K) (op_eqD hr.units) (pe_ix (r := rIx K) ix_seq (pv 1) pe_int (fun _ _ => rfl)) pe_str (nomark _)) (pss_one (ps_ret (pe_meth0 (pv 0) T.c_World T.m_w_turn F_w_turn (hr.mono (by decide)) b_w_turn .nil pass0))) pss_nil)
      (pss_cons (ps_if (pt_cmpR (r := rEqD K) (op_eqD hr.units) (pe_ix (r := rIx K) ix_seq (pv 1) pe_int (fun _ _ => rfl)) pe_str (nomark _)) (pss_one (ps_ret (pe_meth0 (pv 0) T.c_World T.m_w_cut F_w_cut (hr.mono (by decide)) b_w_cut .nil pass0))) pss_nil)
      (pss_one (ps_ret (pe_and (pe_cmpR (r := rEqD K) (op_eqD hr.units) (pe_ix (r := rIx K) ix_seq (pv 1) pe_int (fun _ _ => rfl)) pe_str (nomark _)) (pe_one (pe_meth0 (pv 0) T.c_World T.m_w_seal_late F_w_seal_late (hr.mono (by decide)) b_w_seal_late .nil pass0))))))))), ?_⟩
    try dsimp only [cxOf, Cx.nox, Cx.wish]
    refine rd_start [some (.ref p), some vs] ?_
    cases st with
    | boot t =>
      refine q_skip (EdT.is (et_or (et_not (et_B (ed_isi (ed_v h1) (by rfl)))) fun _ => et_or (et_not (et_test (ed_chainLe ed_int (ed_lenT (ed_v h1)) ed_int))) fun _ => et_not (et_B (ed_isi (ed_op (ed_v h1) ed_int (rd_ix (by rfl))) (by rfl)))) (by rfl)) fun H1 e1 => ?_
      refine q_do (EdT.is (et_test (ed_op (ed_lenT (ed_v h1)) ed_int rd_eqI)) (by rfl)) fun H2 e2 => ?_
      refine r_ret (r_if1 (et_keyS (s := .boot t) (ed_v h1) (by decide +kernel) (by rfl)) fun H3 e3 => ?_)
      exact st_wCall ev_v (hW.to (e1.trans (e2.trans e3))) (ea_cons (ed_op (ed_v h1) ed_int (rd_ix (by rfl))) ea_nil) hT (by walk_at "kp") ⟨t, rfl, hst⟩ _ fun v H4 c4 hv hW4 => hQ v H4 ((e1.trans (e2.trans e3)).chg.trans c4) hv hW4
    | ask o =>
      refine q_skip (EdT.is (et_or (et_not (et_B (ed_isi (ed_v h1) (by rfl)))) fun _ => et_or (et_not (et_test (ed_chainLe ed_int (ed_lenT (ed_v h1)) ed_int))) fun _ => et_not (et_B (ed_isi (ed_op (ed_v h1) ed_int (rd_ix (by rfl))) (by rfl)))) (by rfl)) fun H1 e1 => ?_
      refine q_do (EdT.is (et_test (ed_op (ed_lenT (ed_v h1)) ed_int rd_eqI)) (by rfl)) fun H2 e2 => ?_
      refine r_ret (r_if0 (et_keyS (s := .ask o) (ed_v h1) (by decide +kernel) (by rfl)) fun H3 e3 => ?_)
      refine r_and1 (K := K) (ed_eqC (ed_keyS (s := .ask o) (ed_v h1)) (keyS_ok _) (by decide +kernel) (by rfl)) fun H4 e4 => ?_
      exact st_wCall ev_v (hW.to (e1.trans (e2.trans (e3.trans e4)))) (ea_cons (ed_op (ed_v h1) ed_int (rd_ix (by rfl))) ea_nil) hT (by walk_at "kp") ⟨o, rfl, hst⟩ _ fun v H5 c5 hv hW5 => hQ v H5 ((e1.trans (e2.trans (e3.trans e4))).chg.trans c5) hv hW5
    | turn =>
      refine q_skip (EdT.is (et_or (et_not (et_B (ed_isi (ed_v h1) (by rfl)))) fun _ => et_or (et_not (et_test (ed_chainLe ed_int (ed_lenT (ed_v h1)) ed_int))) fun _ => et_not (et_B (ed_isi (ed_op (ed_v h1) ed_int (rd_ix (by rfl))) (by rfl)))) (by rfl)) fun H1 e1 => ?_
      refine q_skip (EdT.is (et_test (ed_op (ed_lenT (ed_v h1)) ed_int rd_eqI)) (by rfl)) fun H2 e2 => ?_
      refine q_do (et_keyS (s := .turn) (ed_v h1) (by decide +kernel) (by rfl)) fun H3 e3 => ?_
      exact r_ret (st_wCall ev_v (hW.to (e1.trans (e2.trans e3))) ea_nil hT (by walk_at "kp") ⟨rfl, hst⟩ _ fun v H4 c4 hv hW4 => hQ v H4 ((e1.trans (e2.trans e3)).chg.trans c4) hv hW4)
    | cut =>
      refine q_skip (EdT.is (et_or (et_not (et_B (ed_isi (ed_v h1) (by rfl)))) fun _ => et_or (et_not (et_test (ed_chainLe ed_int (ed_lenT (ed_v h1)) ed_int))) fun _ => et_not (et_B (ed_isi (ed_op (ed_v h1) ed_int (rd_ix (by rfl))) (by rfl)))) (by rfl)) fun H1 e1 => ?_
      refine q_skip (EdT.is (et_test (ed_op (ed_lenT (ed_v h1)) ed_int rd_eqI)) (by rfl)) fun H2 e2 => ?_
      refine q_skip (et_keyS (s := .cut) (ed_v h1) (by decide +kernel) (by rfl)) fun H3 e3 => ?_
      refine q_do (et_keyS (s := .cut) (ed_v h1) (by decide +kernel) (by rfl)) fun H4 e4 => ?_
      exact r_ret (st_wCall ev_v (hW.to (e1.trans (e2.trans (e3.trans e4)))) ea_nil hT (by walk_at "kp") ⟨rfl, hst⟩ _ fun v H5 c5 hv hW5 => hQ v H5 ((e1.trans (e2.trans (e3.trans e4))).chg.trans c5) hv hW5)
    | put =>
      refine q_skip (EdT.is (et_or (et_not (et_B (ed_isi (ed_v h1) (by rfl)))) fun _ => et_or (et_not (et_test (ed_chainLe ed_int (ed_lenT (ed_v h1)) ed_int))) fun _ => et_not (et_B (ed_isi (ed_op (ed_v h1) ed_int (rd_ix (by rfl))) (by rfl)))) (by rfl)) fun H1 e1 => ?_
      refine q_skip (EdT.is (et_test (ed_op (ed_lenT (ed_v h1)) ed_int rd_eqI)) (by rfl)) fun H2 e2 => ?_
      refine q_skip (et_keyS (s := .put) (ed_v h1) (by decide +kernel) (by rfl)) fun H3 e3 => ?_
      refine q_skip (et_keyS (s := .put) (ed_v h1) (by decide +kernel) (by rfl)) fun H4 e4 => ?_
      refine r_ret (r_and1 (K := K) (ed_eqC (ed_keyS (s := .put) (ed_v h1)) (keyS_ok _) (by decide +kernel) (by rfl)) fun H5 e5 => ?_)
      exact st_wCall ev_v (hW.to (e1.trans (e2.trans (e3.trans (e4.trans e5))))) ea_nil hT (by walk_at "kp") ⟨rfl, hst⟩ _ fun v H6 c6 hv hW6 => hQ v H6 ((e1.trans (e2.trans (e3.trans (e4.trans e5)))).chg.trans c6) hv hW6
def R_w_is_dead (ds : List Dt) (mn : Mn) (M : Mach) (G : Tbl) (S : WS) (d : Dt) : Prop := ds = [] ∧ d = .bl (deadW mn S)
theorem sc_w_is_dead : FnScope ["self", "note"] ["self"] (defScope s_w_is_dead) := ⟨rfl, rfl, rfl, by decide +kernel, rfl, by decide +kernel, by decide +kernel⟩
theorem ok_w_is_dead (T : Txt w K mg base) : Ok P w K mg base 5 ("World", some "is_dead") ["self"] (SpWF K (TL K) R_w_is_dead) := by
  obtain ⟨⟨fd_w_fits, F_w_fits, b_w_fits⟩, k_w_fits⟩ := ok_w_fits (P := P) T
  refine ok_ofC (k := 4) T.f_w_is_dead sc_w_is_dead (fun vs H Q E h => ?_) (fun _ _ _ _ _ _ us hl => match us, hl with | [_], _ => rfl) (fun A outer s H vs Q E hr h => ?_)
  · obtain ⟨p, n, s, q, rest, ds, mn, M, G, S, d, rfl, hi, _, _, ⟨rfl, _⟩, _⟩ := h
    rw [List.length_cons, hi.length]
    rfl
  · obtain ⟨p, n, s, q, rest, ds, mn, M, G, S, d, rfl, hi, hT, hW, ⟨rfl, rfl⟩, hQ⟩ := h
    cases hi
    refine ⟨_, (pss_one (ps_ret (pe_not (pe_anyG (own := [("note", 1)]) hr (by rfl) T.g_any (T.tb _ (by decide)) rfl sc_w_is_dead.nd ⟨rfl, rfl, by decide +kernel, rfl⟩ (blkOk_by (N := ["self", "note"]) (sc := defScope s_w_is_dead) (by decide +kernel)) (pi_list (pe_fldK (K := K) rfl (pv 0) rfl)) (fun _ _ _ _ _ _ _ => (pg_name (i := 1) sc_w_is_dead.nd rfl (Or.inl rfl))) (fun _ _ _ _ _ _ _ hr => (pe_meth (pv 0) T.c_World T.m_w_fits F_w_fits (hr.mono (by decide)) b_w_fits .nil pass0 (pa_cons (pv 1) pa_nil))))))), ?_⟩
    try dsimp only [cxOf, Cx.nox, Cx.wish]
    refine rd_start [some (.ref p), none] ?_
    refine st_ret (Ed.is (ed_notV (ed_anyL (el_wNotes T ev_v hW) (tabs_at hT) (by walk_at "kp") gm_name (atB S.shelf fun x => fitsW mn S.rd x) fun j v d H' e hd hv => ?_)) ?_) hQ
    · rw [List.getElem?_map] at hd
      obtain ⟨x, hx, rfl⟩ := Option.map_eq_some_iff.mp hd
      exact gx_name rfl (ed_wCallF ev_v (hW.to e) (ea_cons (ed_v hv) ea_nil) hT (by walk_at "kp") ⟨x, rfl, by rw [atB_eq hx]⟩)
    · rw [List.length_map, any_range (f := fun x => fitsW mn S.rd x) fun j x hx => atB_eq hx]
      rfl
def R_w_pair (ds : List Dt) (mn : Mn) (M : Mach) (G : Tbl) (S : WS) (φ : Prop) : Prop := ∃ m n : Nat, ds = [] ∧ House M G m ∧ GoodW M G n S ∧ n ≤ 60 ∧ φ = ¬ TwoW M G S
theorem sc_w_pair : FnScope ["self", "tellings", "life", "later", "earlier"] ["self"] (defScope s_w_pair) := ⟨rfl, rfl, rfl, by decide +kernel, rfl, by decide +kernel, by decide +kernel⟩
theorem ok_w_pair (T : Txt w K mg base) : Ok P w K mg base 6 ("World", some "pair") ["self"] (SpWN K (TL K) R_w_pair) := by
  obtain ⟨⟨fd_told_by, F_told_by, b_told_by⟩, k_told_by⟩ := ok_told_by (P := P) T
  obtain ⟨⟨fd_along, F_along, b_along⟩, k_along⟩ := ok_along (P := P) T
  refine ok_of (k := 5) T.f_w_pair sc_w_pair (fun vs H Q E h => ?_) (fun _ _ _ _ _ _ us hl => match us, hl with | [_], _ => rfl) (fun cdv A outer s H vs Q E hr h => ?_)
  · obtain ⟨p, n, s, q, rest, ds, mn, M, G, S, d, rfl, hi, _, _, ⟨m, nn, rfl, _⟩, _⟩ := h
    rw [List.length_cons, hi.length]
    rfl
  · obtain ⟨p, n, s, q, rest, ds, mn, M, G, S, d, rfl, hi, hT, hW, ⟨m, nn, rfl, hH, hg, hn, rfl⟩, hQ⟩ := h
    cases hi
    refine ⟨_, (pss_cons (ps_setLc (i := 1) (own := [("life", 2)]) rfl sc_w_pair.nd rfl rfl (sw_true rfl rfl rfl (by decide +kernel)) (pi_list (pe_fldK (K := K) rfl (pv 0) rfl)) (blkOk_by (N := ["self", "tellings", "life", "later", "earlier"]) (sc := defScope s_w_pair) (by decide +kernel)) (fun _ _ _ _ _ => (pg_name (i := 2) sc_w_pair.nd rfl (Or.inl rfl))) (fun _ _ _ _ _ => pts_nil) (fun _ _ _ _ _ => (pe_call F_told_by (hr.mono (by decide)) (by rfl) T.g_told_by k_told_by b_told_by .nil pass0 (pa_cons (pe_fldK (K := K) rfl (pv 0) rfl) (pa_cons (pe_fldK (K := K) rfl (pv 0) rfl) (pa_cons (pv 2) pa_nil))))))
      (pss_cons (ps_for PassesOwn.never rfl (pi_range1 (by rfl) T.g_range (pa_cons (pe_callB (id := "len") (r := rLenX K) call_lenX (by rfl) T.g_len (by decide +kernel) (pa_cons (pv 1) pa_nil)) pa_nil)) (pg_name (i := 3) sc_w_pair.nd rfl (Or.inl rfl))
        (pss_one (ps_for PassesOwn.never rfl (pi_range1 (by rfl) T.g_range (pa_cons (pv 3) pa_nil)) (pg_name (i := 4) sc_w_pair.nd rfl (Or.inl rfl))
          (pss_one (ps_if (pt_not (pt_val (pe_call F_along (hr.mono (by decide)) (by rfl) T.g_along k_along b_along .nil pass0 (pa_cons (pe_ix (r := rIx K) ix_seq (pv 1) (pv 4) (fun _ _ => rfl)) (pa_cons (pe_ix (r := rIx K) ix_seq (pv 1) (pv 3) (fun _ _ => rfl)) pa_nil))))) (pss_one (ps_ret (pe_tup (pa_cons (pe_ix (r := rIx K) ix_seq (pe_fldK (K := K) rfl (pv 0) rfl) (pv 4) (fun _ _ => rfl)) (pa_cons (pe_ix (r := rIx K) ix_seq (pe_fldK (K := K) rfl (pv 0) rfl) (pv 3) (fun _ _ => rfl)) pa_nil))))) pss_nil)))))
      (pss_one (ps_ret pe_non)))), ?_⟩
    try dsimp only [cxOf, Cx.nox, Cx.wish]
    refine rd_start [some (.ref p), none, none, none, none] ?_
    have hlp := hg.lp
    have ee : (fun j => (S.spoken.take j).map fun l => eTl (told M G l)) (S.spoken.map eL).length = S.spoken.map fun l => eTl (told M G l) := by
      show (S.spoken.take (S.spoken.map eL).length).map _ = _
      rw [List.length_map, List.take_length]
    refine q_setN (K := K) (ds := S.spoken.map fun l => eTl (told M G l)) ?_ fun f H1 e1 nf hf => ?_
    · rw [← ee]
      refine en_lcL (el_wSpeakers T ev_v hW) gm_name (fun j => (S.spoken.take j).map fun l => eTl (told M G l)) rfl (fun j hj => ?_) fun j v d H' e3 hd hv => ?_
      · rw [List.length_map] at hj
        rw [List.length_map, List.length_take]
        omega
      · rw [List.getElem?_map] at hd
        obtain ⟨l, ht, rfl⟩ := Option.map_eq_some_iff.mp hd
        obtain ⟨⟨⟨s0, hs⟩, hz⟩, _⟩ := hg.sp l (List.mem_of_getElem? ht)
        exact lc_each rfl (take_map (f := fun l => eTl (told M G l)) ht) (ed_call (ea_cons (ed_wMachine T ev_v (hW.to e3)) (ea_cons (ed_wTable T ev_v (hW.to e3)) (ea_cons (ed_v hv) ea_nil))) hT (by walk_at "kp") ⟨M, G, m, l, s0, rfl, hH, hs, by omega, rfl⟩)
    · have hW1 := hW.to e1
      refine rd_start' [some (.ref p), some (.ref f), none, none, none] ?_
      have hfl : ((S.spoken.map fun l => eTl (told M G l)).length : Int) = (S.spoken.length : Int) := by rw [List.length_map]
      refine q_seq (st_forR1 (ed_lenL (el_v hf)) (by omega) (by omega) (fun j σ' H' => ∃ a b, σ' = [some (.ref p), some (.ref f), none, a, b] ∧ Ext H1 H' ∧ NoTwo M G S.spoken j) (fun H2 e2 => ⟨none, none, rfl, e2, fun i i' a b hi => absurd hi (Nat.not_lt_zero _)⟩) ?_ ?_)
      · rintro j σ' H' hj ⟨a, b, rfl, e2, hno⟩
        have hj2 : j < S.spoken.length := by
          rw [hfl] at hj
          omega
        refine g_nm [some (.ref p), some (.ref f), none, some (.int (j : Nat)), b] ?_
        refine st_forR1 (K := K) (ed_vi (n := (j : Nat))) (by omega) (by omega) (fun i σ' H' => ∃ b, σ' = [some (.ref p), some (.ref f), none, some (.int (j : Nat)), b] ∧ Ext H1 H' ∧ ∀ i' < i, ∀ a b, S.spoken[j]? = some a → S.spoken[i']? = some b → alg (told M G a) (told M G b) = true) (fun H3 e3 => ⟨b, rfl, e2.trans e3, fun i' hi => absurd hi (Nat.not_lt_zero _)⟩) ?_ ?_
        · rintro i σ' H3 hi ⟨b, rfl, e3, hin⟩
          have hi2 : i < j := by omega
          have hsj : S.spoken[j]? = some S.spoken[j] := List.getElem?_eq_getElem hj2
          have hsi : S.spoken[i]? = some (S.spoken[i]'(by omega)) := List.getElem?_eq_getElem _
          refine g_nm [some (.ref p), some (.ref f), none, some (.int (j : Nat)), some (.int (i : Nat))] ?_
          have okj := told_okT hH (hg.sp _ (List.getElem_mem hj2)).1
          have oki := told_okT hH (hg.sp _ (List.getElem_mem (show i < S.spoken.length by omega))).1
          refine st_if (k := !(alg (told M G S.spoken[j]) (told M G (S.spoken[i]'(by omega))))) (EdT.is (et_not (et_B (ed_call (ea_cons (ed_ixL (el_v (hf.to e3)) ed_vi (at_map (f := fun l => eTl (told M G l)) hsi)) (ea_cons (ed_ixL (el_v (hf.to e3)) ed_vi (at_map (f := fun l => eTl (told M G l)) hsj)) ea_nil)) hT (by walk_at "kp") ⟨_, _, rfl, oki, okj, rfl⟩))) (by rw [alg_symm])) (fun z H4 e4 => ?_) fun z H4 e4 => ?_
          · have hW4 := hW1.to (e3.trans e4)
            refine st_ret (ed_tup (ea_cons (ed_ixL (el_wSpeakers T ev_v hW4) ed_vi (at_map (f := eL) hsi)) (ea_cons (ed_ixL (el_wSpeakers T ev_v hW4) ed_vi (at_map (f := eL) hsj)) ea_nil)) (by simp)) fun v H5 e5 hv => hQ v H5 (e1.trans (e3.trans (e4.trans e5))) ?_
            cases hv
            constructor
            · intro z
              cases z
            · intro zz
              refine absurd ⟨S.spoken[j], List.getElem_mem hj2, S.spoken[i]'(by omega), List.getElem_mem _, ?_⟩ zz
              simpa using z
          · refine ⟨_, rfl, e3.trans e4, fun i' hi' a b ha hb => ?_⟩
            rcases Nat.lt_succ_iff_lt_or_eq.mp hi' with h | h
            · exact hin i' h a b ha hb
            · subst h
              rw [hsj] at ha
              rw [hsi] at hb
              cases ha
              cases hb
              simpa using z
        · rintro σ' H3 ⟨b, rfl, e3, hin⟩
          refine ⟨_, _, rfl, e3, fun i i' a b hi hi' ha hb => ?_⟩
          rcases Nat.lt_succ_iff_lt_or_eq.mp hi with h | h
          · exact hno i i' a b h hi' ha hb
          · subst h
            exact hin i' (by simpa using hi') a b ha hb
      · rintro σ' H' ⟨a, b, rfl, e2, hno⟩
        have e7 : ((S.spoken.map fun l => eTl (told M G l)).length : Int).toNat = S.spoken.length := by
          rw [hfl]
          omega
        rw [e7] at hno
        dsimp only
        exact st_ret (K := K) ed_non fun v H3 e3 hv => hQ v H3 (e1.trans (e2.trans e3)) (by cases hv; exact ⟨fun _ => noTwo_all hno, fun _ => rfl⟩)
end
end K29
set_option Elab.async false
set_option linter.all false
set_option maxRecDepth 100000
set_option maxHeartbeats 4000000
/-! the program's world: a new one, a twin -/
namespace K29
open PySem PySem.Spec PyProof.Rows L2
local macro_rules | `(tactic| walk_at "kp") => `(tactic| first | exact Kp.refl _ | assumption | exact Chg.kp (by assumption) | (refine Kp.trans ?_ (Chg.kp (by assumption)); walk_at "kp"))
local macro_rules | `(tactic| walk_at "ext") => `(tactic| first | exact Ext.refl _ | assumption | (refine Ext.trans ?_ (by assumption); walk_at "ext"))

/-- a World is made at p -/
def SpInit (K : PySem.W.Frag) : Sp := fun vs H Q _ => ∃ (p dx : Addr) (va vb vc : V) (mn : Mn) (M : Mach) (G : Tbl), vs = [.ref p, va, vb, vc] ∧ H p = some (.ins (He.ga K "World") dx []) ∧ Im K H va (eM M) ∧ Im K H vb (eT G) ∧ Im K H vc (.str mn.s) ∧
  ∀ H' n s q, Chg [p] H H' → H n = none → H s = none → H q = none → WAt K H' p n s q mn M G WS.start → Q .non H'
section
variable {w : World} {K : PySem.W.Frag} {mg : Str → Option Value} {base : Heap} {H H' H0 H1 H2 : Hp} {p n s q dx : Addr} {mn : Mn} {M : Mach} {G : Tbl} {S S' : WS} {σ : L2.St} {ta te tv : TE} {D : Ends} {tz : TS} {d : Dt} {ds : List Dt} {f : Str} {fs : List (Str × V)} {TL : List Addr} {E : XK} {tr : TA}
theorem q_fld0 (T : Txt w K mg base) (nf : NoAttr K (He.ga K "World") f) (hv : Ed K tv σ H d) (h : EdV ta σ H (.ref p)) (hp : H p = some (.ins (He.ga K "World") dx fs)) (hl : fs.length < 1000) (k : ∀ v H1, Chg [p] H H1 → Im K H1 v d → H1 p = some (.ins (He.ga K "World") dx (putF f v fs)) → tz D σ H1) : tSeq (sFld K ta tv f) tz D σ H :=
  hv H (Ext.refl H) _ fun v H1 e1 hv1 => h H1 e1 _ fun H2 e2 => by
    have h0 := (e1.trans e2).get hp
    have cg : Chg [p] H2 (upd H2 p (.ins (He.ga K "World") dx (putF f v fs))) := Chg.put h0
    exact ⟨p, _, dx, _, rfl, h0, T.c_World, nf, hl, k v _ ((e1.trans e2).chg.trans cg) (hv1.to (e2.kp.trans cg.kp)) upd_same⟩
theorem st_fld0L (T : Txt w K mg base) (nf : NoAttr K (He.ga K "World") f) (hv : EdN K tv σ H ds) (h : EdV ta σ H (.ref p)) (hp : H p = some (.ins (He.ga K "World") dx fs)) (hl : fs.length < 1000) (k : ∀ l H1, Chg [p] H H1 → H l = none → LsM K H1 l ds → H1 p = some (.ins (He.ga K "World") dx (putF f (.ref l) fs)) → D.nx σ H1) : sFld K ta tv f D σ H :=
  hv H (Ext.refl H) _ fun l H1 e1 nl hv1 => h H1 e1 _ fun H2 e2 => by
    have h0 := (e1.trans e2).get hp
    have cg : Chg [p] H2 (upd H2 p (.ins (He.ga K "World") dx (putF f (.ref l) fs))) := Chg.put h0
    exact ⟨p, _, dx, _, rfl, h0, T.c_World, nf, hl, k l _ ((e1.trans e2).chg.trans cg) nl ((hv1.to e2).chg cg fun z => by
      rw [List.mem_singleton.mp z, hp] at nl
      cases nl) upd_same⟩
theorem q_fld0L (T : Txt w K mg base) (nf : NoAttr K (He.ga K "World") f) (hv : EdN K tv σ H ds) (h : EdV ta σ H (.ref p)) (hp : H p = some (.ins (He.ga K "World") dx fs)) (hl : fs.length < 1000) (k : ∀ l H1, Chg [p] H H1 → H l = none → LsM K H1 l ds → H1 p = some (.ins (He.ga K "World") dx (putF f (.ref l) fs)) → tz D σ H1) : tSeq (sFld K ta tv f) tz D σ H := st_fld0L (D := { D with nx := tz D }) T nf hv h hp hl k
theorem q_wNotes {S' : List Nt} (T : Txt w K mg base) (hv : EdN K tv σ H (S'.map eNt)) (h : EdV ta σ H (.ref p)) (hW : WAt K H p n s q mn M G S) (k : ∀ H1 n', Chg [p] H H1 → H n' = none → WAt K H1 p n' s q mn M G { S with shelf := S' } → tz D σ H1) : tSeq (sFld K ta tv "notes") tz D σ H := st_wNotes (D := { D with nx := tz D }) T hv h hW k
theorem q_wSaid {S' : List (Nat × Str)} (T : Txt w K mg base) (hv : EdN K tv σ H (S'.map eTd)) (h : EdV ta σ H (.ref p)) (hW : WAt K H p n s q mn M G S) (k : ∀ H1 s', Chg [p] H H1 → H s' = none → WAt K H1 p n s' q mn M G { S with heard := S' } → tz D σ H1) : tSeq (sFld K ta tv "said") tz D σ H := st_wSaid (D := { D with nx := tz D }) T hv h hW k
theorem q_wSpeakers {S' : List Life} (T : Txt w K mg base) (hv : EdN K tv σ H (S'.map eL)) (h : EdV ta σ H (.ref p)) (hW : WAt K H p n s q mn M G S) (k : ∀ H1 q', Chg [p] H H1 → H q' = none → WAt K H1 p n s q' mn M G { S with spoken := S' } → tz D σ H1) : tSeq (sFld K ta tv "speakers") tz D σ H := st_wSpeakers (D := { D with nx := tz D }) T hv h hW k
theorem Chg.kpl {A : List Addr} (c : Chg A H H') {l : Addr} (h : H' l = none) : H l = none := c.kp.live l h
/-- World(..) -/
theorem q_makeW {i : Nat} (h : EdA K tr σ H [eM M, eT G, .str mn.s]) (k : ∀ p n s q H1, Ext H H1 → H p = none → H n = none → H s = none → H q = none → WAt K H1 p n s q mn M G WS.start → tz D (σ.set i (some (.ref p))) H1) : tSeq (tAsg (tMake (He.ga K "World") (SpInit K) [] E tr) (gName i)) tz D σ H :=
  h H (Ext.refl H) _ fun vs H1 e1 hs x dx hx hdx hne => by
    cases hs with | cons h1 hs => cases hs with | cons h2 hs => cases hs with | cons h3 hs =>
    cases hs
    have ea : Ext H1 (upd H1 dx (.own x)) := Ext.new hdx
    have hx2 : upd H1 dx (.own x) x = none := by rw [upd_ne (Ne.symm hne)]; exact hx
    have eb : Ext (upd H1 dx (.own x)) (upd (upd H1 dx (.own x)) x (.ins (He.ga K "World") dx [])) := Ext.new hx2
    have ec := ea.trans eb
    refine ⟨x, dx, _, _, _, mn, M, G, rfl, upd_same, h1.to ec.kp, h2.to ec.kp, h3.to ec.kp, fun H' n s q c hn hs hq hW => ⟨rfl, ?_⟩⟩
    exact k x n s q H' (e1.trans ((ec.chg.trans c).new hx)) (e1.free hx) ((e1.trans ec).free hn) ((e1.trans ec).free hs) ((e1.trans ec).free hq) hW
end
section
variable {P : Program} {w : World} {K : PySem.W.Frag} {mg : Str → Option Value} {base : Heap}
theorem im_birth (T : Txt w K mg base) (H : Hp) : Im K H (.ref (He.ga K "BIRTH")) (eNt ⟨0, none, [], 0⟩) := .tup (T.con 0 (h := rfl) H) (.cons (.int 0) (.cons .non (.cons (.tup (T.con 1 (h := rfl) H) .nil) (.cons (.int 0) .nil))))
theorem sc_w_init : FnScope ["self", "machine", "table", "manner"] ["self", "machine", "table", "manner"] (defScope s_w_init) := ⟨rfl, rfl, rfl, by decide +kernel, rfl, by decide +kernel, by decide +kernel⟩
theorem ok_w_init (T : Txt w K mg base) : OkD P w K mg base 1 ("World", some "__init__") ["self", "machine", "table", "manner"] [] (SpInit K) := by
  refine ok_ofD (k := 0) (dvs := [.str "sealed"]) 4 1 T.f_w_init sc_w_init (fun vs H Q E h => ?_) (by intro h; cases h) (by rfl) (fun _ _ _ _ _ _ _ us its hl hl2 => match us, hl, its, hl2 with | [_, _, _, _], _, [_], _ => ⟨_, rfl, rfl⟩) (fun A outer s H vs Q E hr h => ?_)
  · obtain ⟨p, dx, va, vb, vc, mn, M, G, rfl, _⟩ := h
    rfl
  · obtain ⟨p, dx, va, vb, vc, mn, M, G, rfl, hp, h1, h2, h3, hQ⟩ := h
    refine ⟨_, (pss_cons (ps_fld (pv 0) (pv 1) rfl)
      (pss_cons (ps_fld (pv 0) (pv 2) rfl)
      (pss_cons (ps_fld (pv 0) (pv 3) rfl)
      (pss_cons (ps_fld (pv 0) (pe_tup (pa_cons pe_int (pa_cons pe_non pa_nil))) rfl)
      (pss_cons (ps_fld (pv 0) (pe_lst (pa_cons (pe_gref (by rfl) T.g_BIRTH) pa_nil)) rfl)
      (pss_cons (ps_fld (pv 0) (pe_gref (by rfl) T.g_OFF) rfl)
      (pss_cons (ps_fld (pv 0) (pe_lst pa_nil) rfl)
      (pss_one (ps_fld (pv 0) (pe_lst pa_nil) rfl))))))))), ?_⟩
    try dsimp only [cxOf, Cx.nox, Cx.wish]
    refine rd_start [some (.ref p), some va, some vb, some vc] ?_
    refine q_fld0 T T.n_w_machine (ed_v h1) ev_v hp (by decide) fun v1 H1 c1 g1 p1 => ?_
    refine q_fld0 T T.n_w_table (ed_v (h2.to c1.kp)) ev_v p1 (by show 1 < 1000; decide) fun v2 H2 c2 g2 p2 => ?_
    refine q_fld0 T T.n_w_manner (ed_v (h3.to (c1.trans c2).kp)) ev_v p2 (by show 2 < 1000; decide) fun v3 H3 c3 g3 p3 => ?_
    refine q_fld0 T T.n_w_reading (ed_tup (ea_cons ed_int (ea_cons ed_non ea_nil)) (by simp)) ev_v p3 (by show 3 < 1000; decide) fun v4 H4 c4 g4 p4 => ?_
    refine q_fld0L T T.n_w_notes (en_lst (ea_cons (ed_cst (im_birth T)) ea_nil) (by simp)) ev_v p4 (by show 4 < 1000; decide) fun l5 H5 c5 n5 g5 p5 => ?_
    refine q_fld0 T T.n_w_standing (ed_cst (im_off T)) ev_v p5 (by show 5 < 1000; decide) fun v6 H6 c6 g6 p6 => ?_
    refine q_fld0L T T.n_w_said (en_lst ea_nil (by simp)) ev_v p6 (by show 6 < 1000; decide) fun l7 H7 c7 n7 g7 p7 => ?_
    have last : ∀ l8 H8, Chg [p] H7 H8 → H7 l8 = none → LsM K H8 l8 [] → H8 p = some (.ins (He.ga K "World") dx (wFs v1 v2 v3 v4 v6 l5 l7 l8)) → Q .non H8 := fun l8 H8 c8 n8 g8 p8 => by
      have hv3 : v3 = .str mn.s := by
        cases g3
        rfl
      subst hv3
      have ne5 : l5 ∉ [p] := fun z => by
        rw [List.mem_singleton.mp z, p4] at n5
        cases n5
      have ne7 : l7 ∉ [p] := fun z => by
        rw [List.mem_singleton.mp z, p6] at n7
        cases n7
      have c58 := (c6.trans (c7.trans c8))
      have d57 : l5 ≠ l7 := (g5.chg c6 ne5).ne n7
      have d58 : l5 ≠ l8 := (g5.chg (c6.trans c7) ne5).ne n8
      have d78 : l7 ≠ l8 := g7.ne n8
      refine hQ H8 l5 l7 l8 (c1.trans (c2.trans (c3.trans (c4.trans (c5.trans c58))))) ((c1.trans (c2.trans (c3.trans c4))).kpl n5) ((c1.trans (c2.trans (c3.trans (c4.trans (c5.trans c6))))).kpl n7) ((c1.trans (c2.trans (c3.trans (c4.trans (c5.trans (c6.trans c7)))))).kpl n8) ?_
      exact ⟨dx, v1, v2, v4, v6, p8, ⟨g1.to (c2.trans (c3.trans (c4.trans (c5.trans c58)))).kp, g2.to (c3.trans (c4.trans (c5.trans c58))).kp, g4.to (c5.trans c58).kp, g6.to (c7.trans c8).kp⟩, ⟨g5.chg c58 ne5, g7.chg c8 ne7, g8⟩, d57, d58, d78⟩
    exact st_fld0L T T.n_w_speakers (en_lst ea_nil (by simp)) ev_v p7 (by show 7 < 1000; decide) fun l8 H8 c8 n8 g8 p8 => last l8 H8 c8 n8 g8 p8
/-- a World that stands alike -/
def SpTwin (K : PySem.W.Frag) : Sp := fun vs H Q _ => ∃ (p n s q : Addr) (mn : Mn) (M : Mach) (G : Tbl) (S : WS), vs = [.ref p] ∧ WAt K H p n s q mn M G S ∧ ∀ p' n' s' q' H', Ext H H' → H p' = none → H n' = none → H s' = none → H q' = none → WAt K H' p' n' s' q' mn M G S → Q (.ref p') H'
theorem sc_w_twin : FnScope ["self", "found"] ["self"] (defScope s_w_twin) := ⟨rfl, rfl, rfl, by decide +kernel, rfl, by decide +kernel, by decide +kernel⟩
theorem ok_w_twin (T : Txt w K mg base) : Ok P w K mg base 4 ("World", some "twin") ["self"] (SpTwin K) := by
  obtain ⟨⟨fd_w_init, F_w_init, ds_w_init, v_w_init, b_w_init⟩, k_w_init⟩ := ok_w_init (P := P) T
  refine ok_of (k := 3) T.f_w_twin sc_w_twin (fun vs H Q E h => ?_) (fun _ _ _ _ _ _ us hl => match us, hl with | [_], _ => rfl) (fun cdv A outer s H vs Q E hr h => ?_)
  · obtain ⟨p, n, s, q, mn, M, G, S, rfl, _⟩ := h
    rfl
  · obtain ⟨p, n, s, q, mn, M, G, S, rfl, hW, hQ⟩ := h
    refine ⟨_, (pss_cons (ps_set (i := 1) sc_w_twin.nd rfl (Or.inl rfl) (pe_make T.mk_World F_w_init (hr.mono (by decide)) (by rfl) T.g_World b_w_init v_w_init pass0 (pa_cons (pe_fldK (K := K) rfl (pv 0) rfl) (pa_cons (pe_fldK (K := K) rfl (pv 0) rfl) (pa_cons (pe_fldK (K := K) rfl (pv 0) rfl) pa_nil)))))
      (pss_cons (ps_fld (pv 1) (pe_fldK (K := K) rfl (pv 0) rfl) rfl)
      (pss_cons (ps_fld (pv 1) (pe_callTy (T := "list") (r := rLstX K) call_lstX (by rfl) T.g_list (by decide +kernel) (pa_cons (pe_fldK (K := K) rfl (pv 0) rfl) pa_nil)) rfl)
      (pss_cons (ps_fld (pv 1) (pe_fldK (K := K) rfl (pv 0) rfl) rfl)
      (pss_cons (ps_fld (pv 1) (pe_callTy (T := "list") (r := rLstX K) call_lstX (by rfl) T.g_list (by decide +kernel) (pa_cons (pe_fldK (K := K) rfl (pv 0) rfl) pa_nil)) rfl)
      (pss_cons (ps_fld (pv 1) (pe_callTy (T := "list") (r := rLstX K) call_lstX (by rfl) T.g_list (by decide +kernel) (pa_cons (pe_fldK (K := K) rfl (pv 0) rfl) pa_nil)) rfl)
      (pss_one (ps_ret (pv 1))))))))), ?_⟩
    try dsimp only [cxOf, Cx.nox, Cx.wish]
    refine rd_start [some (.ref p), none] ?_
    refine q_makeW (ea_cons (ed_wMachine T ev_v hW) (ea_cons (ed_wTable T ev_v hW) (ea_cons (ed_wManner T ev_v hW) ea_nil))) fun p' n1 s1 q1 H1 e1 np nn ns nq hW1 => ?_
    refine rd_start' [some (.ref p), some (.ref p')] ?_
    refine q_wReading T (ed_wReading T ev_v (hW.to e1)) ev_v hW1 fun H2 c2 hW2 => ?_
    have e2 : Ext H H2 := (e1.chg.trans c2).new np
    refine q_wNotes (S' := S.shelf) T (en_lstL (el_wNotes T ev_v (hW.to e2))) ev_v hW2 fun H3 n2 c3 nn2 hW3 => ?_
    have e3 : Ext H H3 := (e2.chg.trans c3).new np
    have nn2' := e2.free nn2
    refine q_wStanding T (ed_wStanding T ev_v (hW.to e3)) ev_v hW3 fun H4 c4 hW4 => ?_
    have e4 : Ext H H4 := (e3.chg.trans c4).new np
    refine q_wSaid (S' := S.heard) T (en_lstL (el_wSaid T ev_v (hW.to e4))) ev_v hW4 fun H5 s2 c5 ns2 hW5 => ?_
    have e5 : Ext H H5 := (e4.chg.trans c5).new np
    have ns2' := e4.free ns2
    refine q_wSpeakers (S' := S.spoken) T (en_lstL (el_wSpeakers T ev_v (hW.to e5))) ev_v hW5 fun H6 q2 c6 nq2 hW6 => ?_
    have e6 : Ext H H6 := (e5.chg.trans c6).new np
    have nq2' := e5.free nq2
    exact ⟨.ref p', rfl, hQ p' n2 s2 q2 H6 e6 np nn2' ns2' nq2' hW6⟩
end
end K29
set_option Elab.async false
set_option linter.all false
set_option maxRecDepth 100000
set_option maxHeartbeats 4000000
/-! the program: harm, steps, pictures -/
namespace K29
open PySem PySem.Spec PyProof.Rows L2
local macro_rules | `(tactic| walk_at "kp") => `(tactic| first | exact Kp.refl _ | assumption | exact Chg.kp (by assumption) | (refine Kp.trans ?_ (Chg.kp (by assumption)); walk_at "kp"))
local macro_rules | `(tactic| walk_at "ext") => `(tactic| first | exact Ext.refl _ | assumption | (refine Ext.trans ?_ (by assumption); walk_at "ext"))

theorem perm_map {α : Type} {f : α → Dt} (hf : ∀ a b, f a = f b ↔ a = b) : ∀ {es : List Dt} {xs : List α}, es.Perm (xs.map f) → ∃ ys : List α, (∀ x, x ∈ ys ↔ x ∈ xs) ∧ ys.length = xs.length ∧ es = ys.map f := by
  intro es xs h
  have hm : ∀ e ∈ es, ∃ x, e = f x := fun e he => by
    obtain ⟨x, _, ex⟩ := List.mem_map.mp (h.mem_iff.mp he)
    exact ⟨x, ex.symm⟩
  obtain ⟨ys, rfl⟩ : ∃ ys : List α, es = ys.map f := by
    clear h
    induction es with
    | nil => exact ⟨[], rfl⟩
    | cons e es ih =>
      obtain ⟨x, rfl⟩ := hm e (List.mem_cons_self ..)
      obtain ⟨ys, rfl⟩ := ih fun e he => hm e (List.mem_cons_of_mem _ he)
      exact ⟨x :: ys, rfl⟩
  refine ⟨ys, fun x => ?_, by have := h.length_eq; simpa using this, rfl⟩
  have key : ∀ (zs : List α), x ∈ zs ↔ f x ∈ zs.map f := fun zs => by
    rw [List.mem_map]
    constructor
    · exact fun z => ⟨x, z, rfl⟩
    · rintro ⟨y, hy, e⟩
      rw [← (hf y x).mp e]
      exact hy
  rw [key ys, key xs]
  exact h.mem_iff
/-- what tells all that matters -/
def picD (S : WS) (ns : List Nt) (ls : List Life) : Dt := .tup [eRd S.rd, .tup (ns.map eNt), eSg S.stand, .tup (ls.map eL)]
section
variable {P : Program} {w : World} {K : PySem.W.Frag} {mg : Str → Option Value} {base : Heap}
def R_harm_in (ds : List Dt) (mn : Mn) (M : Mach) (G : Tbl) (S : WS) (d : Dt) : Prop := ∃ m n : Nat, ds = [] ∧ House M G m ∧ GoodW M G n S ∧ n ≤ 60 ∧ d = eW (harmW mn M G S)
theorem sc_harm_in : FnScope ["world"] ["world"] (defScope s_harm_in) := ⟨rfl, rfl, rfl, by decide +kernel, rfl, by decide +kernel, by decide +kernel⟩
theorem ok_harm_in (T : Txt w K mg base) : Ok P w K mg base 7 ("harm_in", none) ["world"] (SpWF K (TL K) R_harm_in) := by
  obtain ⟨⟨fd_w_pair, F_w_pair, b_w_pair⟩, k_w_pair⟩ := ok_w_pair (P := P) T
  obtain ⟨⟨fd_w_is_dead, F_w_is_dead, b_w_is_dead⟩, k_w_is_dead⟩ := ok_w_is_dead (P := P) T
  refine ok_of (k := 6) T.f_harm_in sc_harm_in (fun vs H Q E h => ?_) (fun _ _ _ _ _ _ us hl => match us, hl with | [_], _ => rfl) (fun cdv A outer s H vs Q E hr h => ?_)
  · obtain ⟨p, n, s, q, rest, ds, mn, M, G, S, d, rfl, hi, _, _, ⟨m, nn, rfl, _⟩, _⟩ := h
    rw [List.length_cons, hi.length]
    rfl
  · obtain ⟨p, n, s, q, rest, ds, mn, M, G, S, d, rfl, hi, hT, hW, ⟨m, nn, rfl, hH, hg, hn, rfl⟩, hQ⟩ := h
    cases hi
    refine ⟨_, (pss_cons (ps_if (pt_cmp (pc_notN (pe_meth0 (pv 0) T.c_World T.m_w_pair F_w_pair (hr.mono (by decide)) b_w_pair .nil pass0))) (pss_one (ps_ret pe_str)) pss_nil)
      (pss_one (ps_ret (pe_ifExp (pt_val (pe_meth0 (pv 0) T.c_World T.m_w_is_dead F_w_is_dead (hr.mono (by decide)) b_w_is_dead .nil pass0)) pe_str pe_non)))), ?_⟩
    try dsimp only [cxOf, Cx.nox, Cx.wish]
    refine rd_start [some (.ref p)] ?_
    by_cases htw : TwoW M G S
    · have eh : harmW mn M G S = some ("two lives" : Str) := by unfold harmW; rw [if_pos htw]
      rw [eh] at hQ
      refine q_do (et_B (ed_wCallN (φ := ¬ TwoW M G S) ev_v hW ea_nil hT (by walk_at "kp") ⟨m, nn, rfl, hH, hg, hn, rfl⟩ (by simp [htw]))) fun H1 e1 => ?_
      exact st_ret (K := K) ed_str fun v H2 e2 hv => hQ v H2 (e1.trans e2) hv
    · have eh : harmW mn M G S = if deadW mn S = true then some ("dead" : Str) else none := by unfold harmW; rw [if_neg htw]
      rw [eh] at hQ
      refine q_skip (et_B (ed_wCallN (φ := ¬ TwoW M G S) ev_v hW ea_nil hT (by walk_at "kp") ⟨m, nn, rfl, hH, hg, hn, rfl⟩ (by simp [htw]))) fun H1 e1 => ?_
      refine st_ret (K := K) (ed_if (k := deadW mn S) (et_B (ed_wCallF ev_v (hW.to e1) ea_nil hT (by walk_at "kp") ⟨rfl, rfl⟩)) (fun z => ?_) fun z => ?_) fun v H2 e2 hv => hQ v H2 (e1.trans e2) hv
      · rw [if_pos z]
        exact ed_str
      · rw [if_neg (by rw [z]; exact Bool.false_ne_true)]
        exact ed_non
def R_steps_from (ds : List Dt) (mn : Mn) (M : Mach) (G : Tbl) (S : WS) (es : List Dt) : Prop := ∃ m n : Nat, ds = [] ∧ House M G m ∧ GoodW M G n S ∧ n ≤ 60 ∧ es = (canP mn M S).map eStp
theorem sc_steps_from : FnScope ["world", "note", "found", "state", "option"] ["world"] (defScope s_steps_from) := ⟨rfl, rfl, rfl, by decide +kernel, rfl, by decide +kernel, by decide +kernel⟩
theorem ok_steps_from (T : Txt w K mg base) : Ok P w K mg base 5 ("steps_from", none) ["world"] (SpWG K (TL K) R_steps_from) := by
  obtain ⟨⟨fd_w_fits, F_w_fits, b_w_fits⟩, k_w_fits⟩ := ok_w_fits (P := P) T
  obtain ⟨⟨fd_state_behind, F_state_behind, b_state_behind⟩, k_state_behind⟩ := ok_state_behind (P := P) T
  refine ok_of (k := 4) T.f_steps_from sc_steps_from (fun vs H Q E h => ?_) (fun _ _ _ _ _ _ us hl => match us, hl with | [_], _ => rfl) (fun cdv A outer s H vs Q E hr h => ?_)
  · obtain ⟨p, n, s, q, rest, ds, mn, M, G, S, d, rfl, hi, _, _, ⟨m, nn, rfl, _⟩, _⟩ := h
    rw [List.length_cons, hi.length]
    rfl
  · obtain ⟨p, n, s, q, rest, ds, mn, M, G, S, d, rfl, hi, hT, hW, ⟨m, nn, rfl, hH, hg, hn, rfl⟩, hQ⟩ := h
    cases hi
    refine ⟨_, (pss_cons (ps_if (pt_cmpR (r := rEqD K) (op_eqD hr.units) (pe_fldK (K := K) rfl (pv 0) rfl) (pe_gref (by rfl) T.g_OFF) (nomark _)) (pss_one (ps_ret (pe_lc (own := [("note", 1)]) rfl sc_steps_from.nd (pi_list (pe_fldK (K := K) rfl (pv 0) rfl)) (blkOk_by (N := ["world", "note", "found", "state", "option"]) (sc := defScope s_steps_from) (by decide +kernel)) (fun _ _ _ _ _ => (pg_name (i := 1) sc_steps_from.nd rfl (Or.inl rfl))) (fun _ _ _ _ _ => (pts_one (pt_val (pe_meth (pv 0) T.c_World T.m_w_fits F_w_fits (hr.mono (by decide)) b_w_fits .nil pass0 (pa_cons (pv 1) pa_nil))))) (fun _ _ _ _ _ => (pe_tup (pa_cons pe_str (pa_cons (pv 1) pa_nil))))))) pss_nil)
      (pss_cons (ps_set (i := 2) sc_steps_from.nd rfl (Or.inl rfl) (pe_lst (pa_cons (pe_tup (pa_cons pe_str pa_nil)) pa_nil)))
      (pss_cons (ps_if (pt_cmpR (r := rEqD K) (op_eqD hr.units) (pe_ix (r := rIx K) ix_seq (pe_fldK (K := K) rfl (pv 0) rfl) pe_int (fun _ _ => rfl)) pe_str (nomark _)) (pss_cons (ps_set (i := 3) sc_steps_from.nd rfl (Or.inl rfl) (pe_call F_state_behind (hr.mono (by decide)) (by rfl) T.g_state_behind k_state_behind b_state_behind .nil pass0 (pa_cons (pe_fldK (K := K) rfl (pv 0) rfl) (pa_cons (pe_ix (r := rIx K) ix_seq (pe_fldK (K := K) rfl (pv 0) rfl) pe_int (fun _ _ => rfl)) pa_nil))))
        (pss_one (ps_aug (i := 2) sc_steps_from.nd rfl (Or.inl rfl) (pe_lc (own := [("option", 4)]) rfl sc_steps_from.nd (pi_range1 (by rfl) T.g_range (pa_cons (pe_callB (id := "len") (r := rLenX K) call_lenX (by rfl) T.g_len (by decide +kernel) (pa_cons (pe_ix (r := rIx K) ix_seq (pe_fldK (K := K) rfl (pv 0) rfl) (pv 3) (fun _ _ => rfl)) pa_nil)) pa_nil)) (blkOk_by (N := ["world", "note", "found", "state", "option"]) (sc := defScope s_steps_from) (by decide +kernel)) (fun _ _ _ _ _ => (pg_name (i := 4) sc_steps_from.nd rfl (Or.inl rfl))) (fun _ _ _ _ _ => pts_nil) (fun _ _ _ _ _ => (pe_tup (pa_cons pe_str (pa_cons (pv 4) pa_nil))))) iop_ext))) pss_nil)
      (pss_cons (ps_if (pt_cmpR (r := rInX K false) (op_inX (u65 hr)) (pe_ix (r := rIx K) ix_seq (pe_fldK (K := K) rfl (pv 0) rfl) pe_int (fun _ _ => rfl)) (pe_tup (pa_cons pe_str (pa_cons pe_str pa_nil))) (by with_unfolding_all rfl)) (pss_one (ps_expr (pe_bm PySem.F.plainAttrs_list PySem.F.slot_list_append PySem.F.type_list_append mt_append (pv 2) (pa_cons (pe_tup (pa_cons pe_str pa_nil)) pa_nil)))) pss_nil)
      (pss_cons (ps_if (pt_cmpR (r := rEqD K) (op_eqD hr.units) (pe_ix (r := rIx K) ix_seq (pe_fldK (K := K) rfl (pv 0) rfl) pe_int (fun _ _ => rfl)) pe_str (nomark _)) (pss_one (ps_expr (pe_bm PySem.F.plainAttrs_list PySem.F.slot_list_append PySem.F.type_list_append mt_append (pv 2) (pa_cons (pe_tup (pa_cons pe_str pa_nil)) pa_nil)))) pss_nil)
      (pss_one (ps_ret (pv 2)))))))), ?_⟩
    try dsimp only [cxOf, Cx.nox, Cx.wish]
    refine rd_start [some (.ref p), none, none, none, none] ?_
    have hls := hg.ls
    refine q_if (k := decide (S.stand = .off)) (et_test (ed_op (ed_wStanding T ev_v hW) (ed_cst (im_off T)) (rd_eq (n := 3) (m := 3) ok_eSg ok_eSg (by rw [decide_eq_true_iff]; exact eSg_inj.symm)))) (fun z H1 e1 => ?_) fun z H1 e1 => ?_
    · have hs : S.stand = .off := of_decide_eq_true z
      have ec : canP mn M S = (S.shelf.filter fun t => fitsW mn S.rd t).map .boot := by unfold canP; rw [hs]
      rw [ec] at hQ
      have hW1 := hW.to e1
      have ee : (fun j => ((S.shelf.take j).filter fun t => fitsW mn S.rd t).map fun t => eStp (.boot t)) (S.shelf.map eNt).length = ((S.shelf.filter fun t => fitsW mn S.rd t).map .boot).map eStp := by
        show ((S.shelf.take (S.shelf.map eNt).length).filter _).map _ = _
        rw [List.length_map, List.take_length, List.map_map]
        rfl
      rw [← ee] at hQ
      refine st_retN (en_lcL (el_wNotes T ev_v hW1) gm_name (fun j => ((S.shelf.take j).filter fun t => fitsW mn S.rd t).map fun t => eStp (.boot t)) rfl (fun j hj => ?_) fun j v d H' e3 hd hv => ?_) fun l H3 e3 hn hl => hQ l H3 (e1.trans e3) (e1.free hn) hl
      · rw [List.length_map] at hj
        rw [List.length_map]
        refine Nat.lt_of_le_of_lt (List.length_filter_le _ _) ?_
        rw [List.length_take]
        omega
      · rw [List.getElem?_map] at hd
        obtain ⟨t, ht, rfl⟩ := Option.map_eq_some_iff.mp hd
        exact lc_some (k := fitsW mn S.rd t) rfl (et_B (ed_wCallF ev_v (hW1.to e3) (ea_cons (ed_v hv) ea_nil) hT (by walk_at "kp") ⟨t, rfl, rfl⟩)) (filter_take (f := fun t => eStp (.boot t)) ht) fun _ => ed_tup (ea_cons ed_str (ea_cons (ed_v hv) ea_nil)) (by simp)
    · have hs : S.stand ≠ .off := of_decide_eq_false z
      have ec : canP mn M S = canW M S := by
        unfold canP
        cases hs2 : S.stand with
        | off => exact absurd hs2 hs
        | _ => rfl
      rw [ec] at hQ
      refine q_setN (K := K) (en_lst (ea_cons (ed_tup (ea_cons ed_str ea_nil) (by simp)) ea_nil) (by simp)) fun f H3 e3 nf hf0 => ?_
      have hf : LsM K H3 f [eStp .cut] := hf0
      refine rd_start' [some (.ref p), none, some (.ref f), none, none] ?_
      have tail : ∀ (c d : Option V) H4 (base : List Stp) (k1 k2 : Bool), Ext H H4 → LsM K H4 f (base.map eStp) → base.length ≤ 1000 → k1 = decide (keyG S.stand = "sealed" ∨ keyG S.stand = "ready") → k2 = decide (keyG S.stand = "bare") → canW M S = base ++ ((if k1 = true then [Stp.turn] else []) ++ (if k2 = true then [Stp.put] else [])) →
          tSeq (tIfS (tTest (tOp (rInX K false) (tOp (rIx K) (tFld K (tVar 0) "standing") (tC (V.int 0))) (tTup (tCons (tC (V.str "sealed")) (tCons (tC (V.str "ready")) tNil))))) (tDrop (tBM K "list" rAppend (tVar 2) (tCons (tTup (tCons (tC (V.str "turn")) tNil)) tNil))) tNext)
            (tSeq (tIfS (tTest (tOp (rEqD K) (tOp (rIx K) (tFld K (tVar 0) "standing") (tC (V.int 0))) (tC (V.str "bare")))) (tDrop (tBM K "list" rAppend (tVar 2) (tCons (tTup (tCons (tC (V.str "seal")) tNil)) tNil))) tNext) (tRet (tVar 2)))
            { nx := fun _ H' => Q .non H', rt := Q } [some (.ref p), none, some (.ref f), c, d] H4 := by
        intro c d H4 base k1 k2 e4 hg4 hb hk1 hk2 hcan
        have nfH : H f = none := e1.free nf
        have fin : ∀ H7, Ext H H7 → LsM K H7 f ((canW M S).map eStp) → tRet (tVar 2) { nx := fun _ H' => Q .non H', rt := Q } [some (.ref p), none, some (.ref f), c, d] H7 := fun H7 e7 hl7 => ⟨.ref f, rfl, hQ f H7 e7 nfH hl7⟩
        have two : ∀ H5 (b2 : List Stp), Ext H H5 → LsM K H5 f (b2.map eStp) → b2.length ≤ 1001 → canW M S = b2 ++ (if k2 = true then [Stp.put] else []) →
            tSeq (tIfS (tTest (tOp (rEqD K) (tOp (rIx K) (tFld K (tVar 0) "standing") (tC (V.int 0))) (tC (V.str "bare")))) (tDrop (tBM K "list" rAppend (tVar 2) (tCons (tTup (tCons (tC (V.str "seal")) tNil)) tNil))) tNext) (tRet (tVar 2)) { nx := fun _ H' => Q .non H', rt := Q } [some (.ref p), none, some (.ref f), c, d] H5 := by
          intro H5 b2 e5 hl5 hb5 hc5
          have tst := et_keyG (k := k2) (ed_wStanding (σ := [some (.ref p), none, some (.ref f), c, d]) (ta := tVar 0) T ev_v (hW.to e5)) (y := "bare") (by decide +kernel) hk2.symm
          cases k2 with
          | true =>
            refine q_do tst fun H6 e6 => ?_
            refine st_app (hl5.to e6) ev_v (ed_tup (ea_cons ed_str ea_nil) (by simp)) (by rw [List.length_map]; omega) fun H7 c7 hl7 => fin H7 (((e5.trans e6).chg.trans c7).new nfH) ?_
            rw [hc5, List.map_append]
            exact hl7
          | false =>
            refine q_skip tst fun H6 e6 => fin H6 (e5.trans e6) ?_
            rw [hc5]
            simp only [Bool.false_eq_true, if_false, List.append_nil]
            exact hl5.to e6
        have tst : EdT (tTest (tOp (rInX K false) (tOp (rIx K) (tFld K (tVar 0) "standing") (tC (V.int 0))) (tTup (tCons (tC (V.str "sealed")) (tCons (tC (V.str "ready")) tNil))))) [some (.ref p), none, some (.ref f), c, d] H4 k1 := et_test (ed_op (ed_keyG (ed_wStanding T ev_v (hW.to e4))) (ed_tup (ea_cons ed_str (ea_cons ed_str ea_nil)) (by simp)) (rd_inT (n := 0) (m := 0) (ok_str (keyG_ok _)) (by
            intro e he
            simp only [List.mem_cons, List.not_mem_nil, or_false] at he
            rcases he with rfl | rfl <;> exact ok_str (by decide +kernel)) (by
            rw [hk1, decide_eq_true_iff]
            simp only [List.mem_cons, List.not_mem_nil, or_false, Dt.str.injEq])))
        cases hk1e : k1 with
        | true =>
          rw [hk1e] at tst hcan
          refine q_do tst fun H5 e5 => ?_
          refine st_app (hg4.to e5) ev_v (ed_tup (ea_cons ed_str ea_nil) (by simp)) (by rw [List.length_map]; omega) fun H6 c6 hl6 => two H6 (base ++ [.turn]) (((e4.trans e5).chg.trans c6).new nfH) ?_ (by simp; omega) ?_
          · rw [List.map_append]
            exact hl6
          · rw [hcan]
            simp
        | false =>
          rw [hk1e] at tst hcan
          refine q_skip tst fun H5 e5 => two H5 base (e4.trans e5) (hg4.to e5) (by omega) ?_
          rw [hcan]
          simp
      have hWs := hW.to (e1.trans e3)
      by_cases hch : ∃ l, S.stand = .choice l
      · obtain ⟨l, hl⟩ := hch
        have hsg := hg.sg
        rw [hl] at hsg
        obtain ⟨⟨s0, hgo⟩, hz⟩ : LvN M nn l := hsg
        have hsl := go_lt hH (by have := hH.ne; omega) hgo
        have hst : M[s0]? = some M[s0] := List.getElem?_eq_getElem hsl
        have hop : optsN M l = M[s0].length := by
          unfold optsN
          rw [hgo, Option.bind_some, hst]
          rfl
        have hst2 := hH.st M[s0] (List.getElem_mem hsl)
        refine q_do (et_keyG (ed_wStanding T ev_v hWs) (by decide +kernel) (by rw [hl]; rfl)) fun H4 e4 => ?_
        have hW4 := hWs.to e4
        have hstd := ed_wStanding (σ := [some (.ref p), none, some (.ref f), none, none]) (ta := tVar 0) T ev_v hW4
        rw [hl] at hstd
        refine q_set (ed_call (ea_cons (ed_wMachine T ev_v hW4) (ea_cons (ed_op hstd ed_int (rd_ix (by rfl))) ea_nil)) hT (by walk_at "kp") ⟨M, l, s0, rfl, by omega, hgo, rfl⟩) fun z H5 e5 hz5 => ?_
        refine rd_start' [some (.ref p), none, some (.ref f), some z, none] ?_
        have hW5 := hW4.to e5
        refine st_ext (hf.to (e4.trans e5)) rfl (en_lcR (n := M[s0].length) (Ed.is (ed_lenT (ed_op (ed_wMachine T ev_v hW5) (ed_v hz5) (rd_ix (at_map hst)))) (by rw [List.length_map])) (by omega) gm_name (fun j => (List.range j).map fun o => eStp (.ask o)) rfl (fun j hj => by rw [List.length_map, List.length_range]; omega) fun j H6 e6 hj => lc_each rfl (by rw [List.range_succ, List.map_append]; rfl) (ed_tup (ea_cons ed_str (ea_cons ed_vi ea_nil)) (by simp))) (by rw [List.length_map, List.length_range]; simp; omega) fun H6 c6 hl6 => ?_
        have q1 : decide (keyG S.stand = "sealed" ∨ keyG S.stand = "ready") = false := by
          rw [hl]
          exact (show decide (("choice" : Str) = "sealed" ∨ ("choice" : Str) = "ready") = false by decide +kernel)
        have q2 : decide (keyG S.stand = "bare") = false := by
          rw [hl]
          exact (show decide (("choice" : Str) = "bare") = false by decide +kernel)
        refine tail _ _ H6 (.cut :: (List.range (optsN M l)).map .ask) false false (((e1.trans (e3.trans (e4.trans e5))).chg.trans c6).new (e1.free nf)) ?_ (by rw [hop]; simp; omega) q1.symm q2.symm ?_
        · rw [hop]
          simp only [List.map_cons, List.map_map]
          exact hl6
        · unfold canW
          rw [hl]
          simp
      · have hk : decide (keyG S.stand = "choice") = false := by
          cases hs2 : S.stand with
          | choice l => exact absurd ⟨l, hs2⟩ hch
          | off => exact absurd hs2 hs
          | mute => exact (show decide (("mute" : Str) = "choice") = false by decide +kernel)
          | ready _ _ => exact (show decide (("ready" : Str) = "choice") = false by decide +kernel)
          | laid _ => exact (show decide (("sealed" : Str) = "choice") = false by decide +kernel)
          | bare _ _ => exact (show decide (("bare" : Str) = "choice") = false by decide +kernel)
        refine q_skip (et_keyG (ed_wStanding T ev_v hWs) (by decide +kernel) hk) fun H4 e4 => ?_
        refine tail _ _ H4 [.cut] (decide (keyG S.stand = "sealed" ∨ keyG S.stand = "ready")) (decide (keyG S.stand = "bare")) (e1.trans (e3.trans e4)) (hf.to e4) (by simp) rfl rfl ?_
        unfold canW
        cases hs2 : S.stand with
        | choice l => exact absurd ⟨l, hs2⟩ hch
        | off => exact absurd hs2 hs
        | mute => rfl
        | ready _ _ => rfl
        | laid _ => rfl
        | bare _ _ => rfl
end
end K29
set_option Elab.async false
set_option linter.all false
set_option maxRecDepth 100000
set_option maxHeartbeats 4000000
/-! the program's search, each picture once, finds the least harm: plain Lean -/
namespace K29
open PySem PySem.Spec PyProof.Rows L2
/-- they stand alike -/
structure Sim (S T : WS) : Prop where
  rd : S.rd = T.rd
  sg : S.stand = T.stand
  sh : ∀ t, t ∈ S.shelf ↔ t ∈ T.shelf
  sp : ∀ l, l ∈ S.spoken ↔ l ∈ T.spoken
/-- a picture of it -/
def IsPic (S : WS) (x : Dt) : Prop := ∃ ns ls, (∀ t, t ∈ ns ↔ t ∈ S.shelf) ∧ (∀ l, l ∈ ls ↔ l ∈ S.spoken) ∧ x = picD S ns ls
theorem pic_sim {S T : WS} {x : Dt} (h1 : IsPic S x) (h2 : IsPic T x) : Sim S T := by
  obtain ⟨ns, ls, a1, a2, rfl⟩ := h1
  obtain ⟨ns', ls', b1, b2, e⟩ := h2
  simp only [picD, Dt.tup.injEq, List.cons.injEq, and_true, eRd_inj, eSg_inj, map_inj (f := eNt) fun _ _ => eNt_inj, map_inj (f := eL) fun _ _ => eL_inj] at e
  obtain ⟨e1, rfl, e3, rfl⟩ := e
  exact ⟨e1, e3, fun t => (a1 t).symm.trans (b1 t), fun l => (a2 l).symm.trans (b2 l)⟩
theorem Sim.refl (S : WS) : Sim S S := ⟨rfl, rfl, fun _ => Iff.rfl, fun _ => Iff.rfl⟩
theorem Sim.symm {S T : WS} (h : Sim S T) : Sim T S := ⟨h.rd.symm, h.sg.symm, fun t => (h.sh t).symm, fun l => (h.sp l).symm⟩
theorem Sim.trans {S T U : WS} (h : Sim S T) (k : Sim T U) : Sim S U := ⟨h.rd.trans k.rd, h.sg.trans k.sg, fun t => (h.sh t).trans (k.sh t), fun l => (h.sp l).trans (k.sp l)⟩
section
variable {mn : Mn} {M : Mach} {G : Tbl} {S T : WS}
theorem sim_two (h : Sim S T) : TwoW M G S ↔ TwoW M G T := by
  constructor
  · rintro ⟨a, ha, b, hb, e⟩
    exact ⟨a, (h.sp a).mp ha, b, (h.sp b).mp hb, e⟩
  · rintro ⟨a, ha, b, hb, e⟩
    exact ⟨a, (h.sp a).mpr ha, b, (h.sp b).mpr hb, e⟩
theorem sim_dead (h : Sim S T) : deadW mn S = deadW mn T := by
  unfold deadW
  rw [h.rd]
  congr 1
  rw [Bool.eq_iff_iff, List.any_eq_true, List.any_eq_true]
  constructor
  · rintro ⟨t, ht, e⟩
    exact ⟨t, (h.sh t).mp ht, e⟩
  · rintro ⟨t, ht, e⟩
    exact ⟨t, (h.sh t).mpr ht, e⟩
theorem sim_harm (h : Sim S T) : harmW mn M G S = harmW mn M G T := by
  unfold harmW
  rw [sim_dead h]
  by_cases z : TwoW M G S
  · rw [if_pos z, if_pos ((sim_two h).mp z)]
  · rw [if_neg z, if_neg (fun w => z ((sim_two h).mpr w))]
theorem sim_stand {s : Sg} (h : Sim S T) : Sim { S with stand := s } { T with stand := s } := ⟨h.rd, rfl, h.sh, h.sp⟩
theorem sim_rd {r : Nat × Option Nat} (h : Sim S T) : Sim { S with rd := r } { T with rd := r } := ⟨rfl, h.sg, h.sh, h.sp⟩
theorem mem_snoc_if {α : Type} {x y : α} {l : List α} [Decidable (x ∈ l)] : y ∈ (if x ∈ l then l else l ++ [x]) ↔ y ∈ l ∨ y = x := by
  split
  · rename_i h
    constructor
    · exact .inl
    · rintro (z | rfl)
      · exact z
      · exact h
  · simp
theorem sim_say {l : Life} {x : Nat} (h : Sim S T) : Sim (sayW M l x S) (sayW M l x T) := by
  unfold sayW
  cases wordT M l with
  | none => exact h
  | some w => exact ⟨h.rd, h.sg, h.sh, fun l' => (mem_snoc_if.trans (or_congr_left (h.sp l'))).trans mem_snoc_if.symm⟩
theorem sim_put {t : Nt} (h : Sim S T) : Sim (putW t S) (putW t T) := ⟨h.rd, h.sg, fun t' => by unfold putW; dsimp only; rw [mem_snoc_if, mem_snoc_if, h.sh], h.sp⟩
theorem sim_come {l : Life} {d : Nat} (h : Sim S T) : Sim (comeW mn M G l d S) (comeW mn M G l d T) := by
  have hr : ∀ x y : Nat × Option Nat, x = y → x.1 = y.1 := fun x y z => by rw [z]
  obtain ⟨s1, s2, s3, s4, s5⟩ := S
  obtain ⟨t1, t2, t3, t4, t5⟩ := T
  obtain rfl : s1 = t1 := h.rd
  unfold comeW
  split
  · split
    · exact sim_stand h
    · exact sim_stand (sim_say h)
  · split
    · exact sim_stand h
    · split
      · exact sim_stand (sim_say (sim_put h))
      · exact sim_stand (sim_put h)
theorem sim_step {st : Stp} (h : Sim S T) : Sim (stepW mn M G S st) (stepW mn M G T st) := by
  obtain ⟨s1, s2, s3, s4, s5⟩ := S
  obtain ⟨t1, t2, t3, t4, t5⟩ := T
  obtain rfl : s1 = t1 := h.rd
  obtain rfl : s3 = t3 := h.sg
  cases st with
  | boot t =>
    unfold stepW
    dsimp only
    split
    · exact sim_come h
    · exact sim_stand h
  | ask o =>
    unfold stepW
    dsimp only
    split
    · exact sim_come h
    · exact h
  | turn =>
    unfold stepW
    dsimp only
    split
    · exact sim_come (sim_rd h)
    · exact sim_stand (sim_rd h)
    · exact h
  | put =>
    unfold stepW
    dsimp only
    split
    · exact sim_come (sim_put h)
    · exact h
  | cut => exact sim_stand h
theorem mute_fits {t : Nt} (h : (stepW mn M G S (.boot t)).stand ≠ .mute) : fitsW mn S.rd t = true := by
  cases e : fitsW mn S.rd t with
  | true => rfl
  | false =>
    refine absurd ?_ h
    show (if fitsW mn S.rd t = true then comeW mn M G t.l t.d S else { S with stand := .mute }).stand = .mute
    rw [if_neg (by rw [e]; exact Bool.false_ne_true)]
/-- what does not end mute can be done by all that stand alike -/
theorem sim_can {st : Stp} (h : Sim S T) (hc : st ∈ canW M S) (hm : (stepW mn M G S st).stand ≠ .mute) : st ∈ canP mn M T := by
  unfold canP
  unfold canW at hc
  rw [← h.sg]
  cases hs : S.stand with
  | off =>
    rw [hs] at hc
    obtain ⟨t, ht, rfl⟩ := List.mem_map.mp hc
    refine List.mem_map.mpr ⟨t, List.mem_filter.mpr ⟨(h.sh t).mp ht, ?_⟩, rfl⟩
    rw [← h.rd]
    exact mute_fits hm
  | mute => rw [hs] at hc; dsimp only; unfold canW; rw [← h.sg, hs]; exact hc
  | choice l => rw [hs] at hc; dsimp only; unfold canW; rw [← h.sg, hs]; exact hc
  | ready l d => rw [hs] at hc; dsimp only; unfold canW; rw [← h.sg, hs]; exact hc
  | laid t => rw [hs] at hc; dsimp only; unfold canW; rw [← h.sg, hs]; exact hc
  | bare l d => rw [hs] at hc; dsimp only; unfold canW; rw [← h.sg, hs]; exact hc
theorem come_mute {l : Life} {d : Nat} : (comeW mn M G l d S).stand ≠ .mute := by
  unfold comeW
  split
  · exact fun z => nomatch z
  · split
    · exact fun z => nomatch z
    · exact fun z => nomatch z
/-- the program's steps never end mute -/
theorem canP_mute {st : Stp} (hc : st ∈ canP mn M S) (h0 : S.stand ≠ .mute) : (stepW mn M G S st).stand ≠ .mute := by
  cases st with
  | boot t =>
    unfold canP at hc
    cases hs : S.stand with
    | off =>
      rw [hs] at hc
      obtain ⟨t', ht, e⟩ := List.mem_map.mp hc
      cases e
      show (if fitsW mn S.rd t = true then comeW mn M G t.l t.d S else { S with stand := .mute }).stand ≠ .mute
      rw [if_pos (List.mem_filter.mp ht).2]
      exact come_mute
    | _ => rw [hs] at hc; dsimp only at hc; unfold canW at hc; rw [hs] at hc; simp at hc
  | ask o =>
    unfold stepW
    dsimp only
    split
    · exact come_mute
    · exact h0
  | turn =>
    unfold stepW
    dsimp only
    split
    · exact come_mute
    · exact fun z => nomatch z
    · exact h0
  | put =>
    unfold stepW
    dsimp only
    split
    · exact come_mute
    · exact h0
  | cut => exact fun z => nomatch z
end
/-! ### stories -/
def runW (mn : Mn) (M : Mach) (G : Tbl) (S : WS) (sts : List Stp) : WS := sts.foldl (stepW mn M G) S
/-- each step is one of the program's -/
def PathP (mn : Mn) (M : Mach) (G : Tbl) : WS → List Stp → Prop
  | _, [] => True
  | S, st :: r => st ∈ canP mn M S ∧ PathP mn M G (stepW mn M G S st) r
section
variable {mn : Mn} {M : Mach} {G : Tbl} {m : Nat}
theorem run_snoc {S : WS} {sts : List Stp} {st : Stp} : runW mn M G S (sts ++ [st]) = stepW mn M G (runW mn M G S sts) st := by
  unfold runW
  rw [List.foldl_append]
  rfl
theorem path_snoc : ∀ {S : WS} {sts : List Stp} {st : Stp}, PathP mn M G S (sts ++ [st]) ↔ PathP mn M G S sts ∧ st ∈ canP mn M (runW mn M G S sts)
  | S, [], st => by
    show st ∈ canP mn M S ∧ True ↔ True ∧ st ∈ canP mn M S
    simp
  | S, a :: r, st => by
    show a ∈ canP mn M S ∧ PathP mn M G (stepW mn M G S a) (r ++ [st]) ↔ (a ∈ canP mn M S ∧ PathP mn M G (stepW mn M G S a) r) ∧ st ∈ canP mn M (runW mn M G (stepW mn M G S a) r)
    rw [path_snoc, and_assoc]
/-- an entry of the j-th level -/
structure Ent (mn : Mn) (M : Mach) (G : Tbl) (j : Nat) (e : WS × List Stp) : Prop where
  path : PathP mn M G WS.start e.2
  run : runW mn M G WS.start e.2 = e.1
  len : e.2.length = j
theorem ent_start : Ent mn M G 0 (WS.start, []) := ⟨trivial, rfl, rfl⟩
theorem ent_next {j : Nat} {e : WS × List Stp} {st : Stp} (h : Ent mn M G j e) (hc : st ∈ canP mn M e.1) : Ent mn M G (j + 1) (stepW mn M G e.1 st, e.2 ++ [st]) :=
  ⟨path_snoc.mpr ⟨h.path, by rw [h.run]; exact hc⟩, by rw [run_snoc, h.run], by simp [h.len]⟩
/-- along a path: reached, never mute -/
theorem path_rch : ∀ {sts : List Stp} {k : Nat} {S : WS}, Rch mn M G k S → S.stand ≠ .mute → PathP mn M G S sts → Rch mn M G (k + sts.length) (runW mn M G S sts) ∧ (runW mn M G S sts).stand ≠ .mute
  | [], k, S, r, h0, _ => ⟨r, h0⟩
  | st :: sts, k, S, r, h0, ⟨h1, h2⟩ => by
    have hm := canP_mute (G := G) h1 h0
    have z := path_rch (.succ r (canP_canW h1) hm) hm h2
    rw [List.length_cons, show k + (sts.length + 1) = k + 1 + sts.length by omega]
    exact z
theorem start_rch {sts : List Stp} (h : PathP mn M G WS.start sts) : Rch mn M G sts.length (runW mn M G WS.start sts) ∧ (runW mn M G WS.start sts).stand ≠ .mute := by
  have z := path_rch (k := 0) Rch.zero (fun z => nomatch z) h
  rwa [Nat.zero_add] at z
theorem Ent.rch {j : Nat} {e : WS × List Stp} (h : Ent mn M G j e) : Rch mn M G j e.1 ∧ e.1.stand ≠ .mute := by
  have z := start_rch h.path
  rwa [h.run, h.len] at z
/-- what a level leads to: es' the next one, qs' the pictures behind -/
structure Gone (mn : Mn) (M : Mach) (G : Tbl) (es : List (WS × List Stp)) (qs : List Dt) (es' : List (WS × List Stp)) (qs' : List Dt) : Prop where
  from_ : ∀ e' ∈ es', ∃ e ∈ es, ∃ st ∈ canP mn M e.1, e' = (stepW mn M G e.1 st, e.2 ++ [st])
  sub : ∀ x ∈ qs, x ∈ qs'
  pic : ∀ x ∈ qs', x ∈ qs ∨ ∃ e' ∈ es', IsPic e'.1 x
  all : ∀ e ∈ es, ∀ st ∈ canP mn M e.1, ∃ x ∈ qs', IsPic (stepW mn M G e.1 st) x
/-- what holds at the j-th level -/
structure SInv (mn : Mn) (M : Mach) (G : Tbl) (j : Nat) (es : List (WS × List Stp)) (qs : List Dt) : Prop where
  ent : ∀ e ∈ es, Ent mn M G j e
  old : ∃ Old : WS → Prop, (∀ T, Old T → harmW mn M G T = none) ∧ (∀ i < j, ∀ S, Rch mn M G i S → ∃ T, Old T ∧ Sim S T) ∧ (∀ S, Rch mn M G j S → (∃ e ∈ es, Sim S e.1) ∨ ∃ T, Old T ∧ Sim S T) ∧
    (∀ T, Old T → ∀ st ∈ canP mn M T, (∃ e ∈ es, Sim (stepW mn M G T st) e.1) ∨ ∃ T', Old T' ∧ Sim (stepW mn M G T st) T') ∧ ∀ x ∈ qs, (∃ e ∈ es, IsPic e.1 x) ∨ ∃ T, Old T ∧ IsPic T x
theorem sinv_start : SInv mn M G 0 [(WS.start, [])] [] := by
  refine ⟨fun e he => ?_, fun _ => False, fun T h => h.elim, fun i hi => absurd hi (Nat.not_lt_zero _), fun S r => .inl ⟨_, List.mem_singleton.mpr rfl, ?_⟩, fun T h => h.elim, fun x hx => by cases hx⟩
  · cases List.mem_singleton.mp he
    exact ent_start
  · cases r
    exact Sim.refl _
theorem sinv_next {j : Nat} {es es' : List (WS × List Stp)} {qs qs' : List Dt} (h : SInv mn M G j es qs) (g : Gone mn M G es qs es' qs') (hn : ∀ e ∈ es, harmW mn M G e.1 = none) : SInv mn M G (j + 1) es' qs' := by
  obtain ⟨hent, Old, o1, o2, o3, o4, o5⟩ := h
  -- all before: the old ones and this level's
  have pics : ∀ x ∈ qs', (∃ e' ∈ es', IsPic e'.1 x) ∨ ∃ T, (Old T ∨ ∃ e ∈ es, T = e.1) ∧ IsPic T x := fun x hx => by
    rcases g.pic x hx with z | z
    · rcases o5 x z with ⟨e, he, p⟩ | ⟨T, hT, p⟩
      · exact .inr ⟨e.1, .inr ⟨e, he, rfl⟩, p⟩
      · exact .inr ⟨T, .inl hT, p⟩
    · exact .inl z
  have clos : ∀ T, (Old T ∨ ∃ e ∈ es, T = e.1) → ∀ st ∈ canP mn M T, (∃ e ∈ es', Sim (stepW mn M G T st) e.1) ∨ ∃ T', (Old T' ∨ ∃ e ∈ es, T' = e.1) ∧ Sim (stepW mn M G T st) T' := by
    rintro T (hT | ⟨e, he, rfl⟩) st hst
    · rcases o4 T hT st hst with ⟨e, he, s⟩ | ⟨T', hT', s⟩
      · exact .inr ⟨e.1, .inr ⟨e, he, rfl⟩, s⟩
      · exact .inr ⟨T', .inl hT', s⟩
    · obtain ⟨x, hx, p⟩ := g.all e he st hst
      rcases pics x hx with ⟨e', he', p'⟩ | ⟨T', hT', p'⟩
      · exact .inl ⟨e', he', pic_sim p p'⟩
      · exact .inr ⟨T', hT', pic_sim p p'⟩
  have cov : ∀ i < j + 1, ∀ S, Rch mn M G i S → ∃ T, (Old T ∨ ∃ e ∈ es, T = e.1) ∧ Sim S T := fun i hi S r => by
    rcases Nat.lt_succ_iff_lt_or_eq.mp hi with z | z
    · obtain ⟨T, h1, h2⟩ := o2 i z S r
      exact ⟨T, .inl h1, h2⟩
    · subst z
      rcases o3 S r with ⟨e, he, s⟩ | ⟨T, hT, s⟩
      · exact ⟨e.1, .inr ⟨e, he, rfl⟩, s⟩
      · exact ⟨T, .inl hT, s⟩
  refine ⟨fun e' he' => ?_, fun T => Old T ∨ ∃ e ∈ es, T = e.1, ?_, cov, ?_, clos, pics⟩
  · obtain ⟨e, he, st, hst, rfl⟩ := g.from_ e' he'
    exact ent_next (hent e he) hst
  · rintro T (hT | ⟨e, he, rfl⟩)
    · exact o1 T hT
    · exact hn e he
  · intro S r
    cases r with
    | @succ _ S0 st r0 hc hm =>
      obtain ⟨T, hT, s⟩ := cov j (Nat.lt_succ_self _) S0 r0
      have hst := sim_can s hc hm
      have s2 := sim_step (mn := mn) (M := M) (G := G) (st := st) s
      rcases clos T hT st hst with ⟨e, he, s3⟩ | ⟨T', hT', s3⟩
      · exact .inl ⟨e, he, s2.trans s3⟩
      · exact .inr ⟨T', hT', s2.trans s3⟩
/-- harm at this level is the least -/
theorem sinv_harm {j most : Nat} {es : List (WS × List Stp)} {qs : List Dt} (h : SInv mn M G j es qs) (hj : j ≤ most) {e : WS × List Stp} (he : e ∈ es) (hh : harmW mn M G e.1 ≠ none) : LeastH mn M G most (some j) := by
  obtain ⟨hent, Old, o1, o2, _⟩ := h
  refine ⟨hj, ⟨e.1, (hent e he).rch.1, hh⟩, fun i hi S r => ?_⟩
  obtain ⟨T, hT, s⟩ := o2 i hi S r
  rw [sim_harm s]
  exact o1 T hT
theorem sinv_end {most : Nat} {es : List (WS × List Stp)} {qs : List Dt} (h : SInv mn M G (most + 1) es qs) : LeastH mn M G most none := by
  obtain ⟨hent, Old, o1, o2, _⟩ := h
  intro i hi S r
  obtain ⟨T, hT, s⟩ := o2 i (by omega) S r
  rw [sim_harm s]
  exact o1 T hT
end
/-- what least_harm may hand back -/
def LhOk (mn : Mn) (M : Mach) (G : Tbl) (most : Nat) (d : Dt) : Prop :=
  (d = .non ∧ LeastH mn M G most none) ∨ ∃ (word : Str) (sts : List Stp), d = .tup [.str word, .tup (sts.map eStp)] ∧ LeastH mn M G most (some sts.length) ∧ PathP mn M G WS.start sts ∧ harmW mn M G (runW mn M G WS.start sts) = some word
end K29
set_option Elab.async false
set_option linter.all false
set_option maxRecDepth 100000
set_option maxHeartbeats 4000000
/-! the program: pictures, stories, a level of the search -/
namespace K29
open PySem PySem.Spec PyProof.Rows L2
local macro_rules | `(tactic| walk_at "kp") => `(tactic| first | exact Kp.refl _ | assumption | exact Chg.kp (by assumption) | (refine Kp.trans ?_ (Chg.kp (by assumption)); walk_at "kp"))
local macro_rules | `(tactic| walk_at "ext") => `(tactic| first | exact Ext.refl _ | assumption | (refine Ext.trans ?_ (by assumption); walk_at "ext"))

section
variable {σ : L2.St} {H : Hp} {D : Ends} {ta tm : TE} {tr t tk : TA} {R : List V → Hp → Prop} {Q : VK} {tu tw : TS}
theorem r_tup (h : t σ H fun xs H1 => xs.length ≤ sizeLine ∧ ∀ p, H1 p = none → D.rt (.ref p) (upd H1 p (.tup xs))) : tRet (tTup t) D σ H := h
theorem r_cons (h : ta σ H fun v H1 => tr σ H1 fun vs H2 => R (v :: vs) H2) : tCons ta tr σ H R := h
theorem r_nil (h : R [] H) : tNil σ H R := h
theorem r_c {v : V} (h : Q v H) : tC v σ H Q := h
theorem r_cb {r : List V → Hp → VK → Prop} (h : t σ H fun xs H1 => r xs H1 Q) : tCB r t σ H Q := h
theorem r_ckw {r : List V → List V → Hp → VK → Prop} (h : t σ H fun vs H1 => tk σ H1 fun zs H2 => r vs zs H2 Q) : tCKw r t tk σ H Q := h
theorem st_ifN (h : tm σ H fun v H1 => ∃ k, v = .bl k ∧ (if (!k) = true then tu D σ H1 else tw D σ H1)) : tIfS (tNot (tB tm)) tu tw D σ H := h
end
section
variable {P : Program} {w : World} {K : PySem.W.Frag} {mg : Str → Option Value} {base : Heap}
/-- a picture -/
def SpPic (K : PySem.W.Frag) (TL : List Addr) : Sp := fun vs H Q _ => ∃ (p n s q : Addr) (mn : Mn) (M : Mach) (G : Tbl) (m nn : Nat) (S : WS), vs = [.ref p] ∧ Tabs TL H ∧ WAt K H p n s q mn M G S ∧ House M G m ∧ GoodW M G nn S ∧ nn ≤ 60 ∧
  ∀ v H' ns ls, Ext H H' → (∀ t, t ∈ ns ↔ t ∈ S.shelf) → (∀ l, l ∈ ls ↔ l ∈ S.spoken) → Im K H' v (picD S ns ls) → Q v H'
theorem sc_picture_of : FnScope ["world"] ["world"] (defScope s_picture_of) := ⟨rfl, rfl, rfl, by decide +kernel, rfl, by decide +kernel, by decide +kernel⟩
theorem ok_picture_of (T : Txt w K mg base) : Ok P w K mg base 4 ("picture_of", none) ["world"] (SpPic K (TL K)) := by
  obtain ⟨⟨fd_order_of, F_order_of, b_order_of⟩, k_order_of⟩ := ok_order_of (P := P) T
  refine ok_of (k := 3) T.f_picture_of sc_picture_of (fun vs H Q E h => ?_) (fun _ _ _ _ _ _ us hl => match us, hl with | [_], _ => rfl) (fun cdv A outer s H vs Q E hr h => ?_)
  · obtain ⟨p, n, s, q, mn, M, G, m, nn, S, rfl, _⟩ := h
    rfl
  · obtain ⟨p, n, s, q, mn, M, G, m, nn, S, rfl, hT, hW, hH, hg, hn, hQ⟩ := h
    refine ⟨_, (pss_one (ps_ret (pe_tup (pa_cons (pe_fldK (K := K) rfl (pv 0) rfl) (pa_cons (pe_callTy (T := "tuple") (r := rTupX K) call_tupX (by rfl) T.g_tuple (by decide +kernel) (pa_cons (pe_callBK (call_sortK F_order_of (hr.mono (by decide)) b_order_of) (by rfl) T.g_sorted (by decide +kernel) (pa_cons (pe_fldK (K := K) rfl (pv 0) rfl) pa_nil) (pk_cons (pe_gref (by rfl) T.g_order_of) pk_nil)) pa_nil)) (pa_cons (pe_fldK (K := K) rfl (pv 0) rfl) (pa_cons (pe_callTy (T := "tuple") (r := rTupX K) call_tupX (by rfl) T.g_tuple (by decide +kernel) (pa_cons (pe_callB (call_sortT (u10 hr)) (by rfl) T.g_sorted (by decide +kernel) (pa_cons (pe_fldK (K := K) rfl (pv 0) rfl) pa_nil)) pa_nil)) pa_nil))))))), ?_⟩
    try dsimp only [cxOf, Cx.nox, Cx.wish]
    refine rd_start [some (.ref p)] ?_
    refine r_tup (r_cons (ed_wReading T ev_v hW H (Ext.refl _) _ fun v1 H1 e1 g1 => ?_))
    have hW1 := hW.to e1
    refine r_cons (r_cb (r_cons (r_ckw (r_cons (ev_wNotes T ev_v hW1 H1 (Ext.refl _) _ fun H2 e2 => r_nil (r_cons (r_c (r_nil ?_))))))))
    have hW2 := hW1.to e2
    have hkey : ∀ (i : Nat) d k, (S.shelf.map eNt)[i]? = some d → (S.shelf.map fun t => Dt.tup [eN t.n, .int (match t.k with | none => -1 | some x => (x : Int)), eL t.l, eN t.d])[i]? = some k → R_order_of [d] k ∧ ShT true k := fun i d k hd hk => by
      rw [List.getElem?_map] at hd hk
      obtain ⟨t, ht, rfl⟩ := Option.map_eq_some_iff.mp hd
      rw [ht] at hk
      cases hk
      refine ⟨⟨t, rfl, rfl⟩, (t.n : Int), (match t.k with | none => -1 | some x => (x : Int)), t.l.map (fun (x : Nat) => (x : Int)), (t.d : Int), ?_⟩
      have e : eL t.l = .tup ((t.l.map fun (x : Nat) => (x : Int)).map Dt.int) := by
        unfold eL
        rw [List.map_map]
        rfl
      show Dt.tup [_, _, eL t.l, _] = _
      rw [e]
      rfl
    refine ⟨n, S.shelf.map eNt, S.shelf.map fun t => Dt.tup [eN t.n, .int (match t.k with | none => -1 | some x => (x : Int)), eL t.l, eN t.d], rfl, rfl, hW2.ls.1.rd, fun d hd => ?_, hT.to (e1.trans e2).kp, by rw [List.length_map, List.length_map], hkey, fun l3 H3 es e3 n3 hp3 hl3 => ?_⟩
    · obtain ⟨t, _, rfl⟩ := List.mem_map.mp hd
      exact ⟨_, rfl⟩
    obtain ⟨ns, hns, hnl, rfl⟩ := perm_map (fun _ _ => eNt_inj) hp3
    obtain ⟨ys, y1, y2⟩ := hl3
    refine r_nil ⟨l3, ys, rfl, .inl ⟨.inl (.inl y1), fun p4 hp4 => ?_⟩⟩
    have e4 : Ext H3 (upd H3 p4 (.tup ys)) := Ext.new hp4
    have g4 : Im K (upd H3 p4 (.tup ys)) (.ref p4) (.tup (ns.map eNt)) := .tup (.inl (.inl upd_same)) (y2.to e4.kp)
    generalize upd H3 p4 (.tup ys) = H4 at e4 g4
    have hW4 := hW2.to (e3.trans e4)
    refine r_cons (ed_wStanding T ev_v hW4 H4 (Ext.refl _) _ fun v5 H5 e5 g5 => ?_)
    have hW5 := hW4.to e5
    refine r_cons (r_cb (r_cons (r_cb (r_cons (ev_wSpeakers T ev_v hW5 H5 (Ext.refl _) _ fun H6 e6 => r_nil ?_)))))
    have hW6 := hW5.to e6
    refine ⟨q, S.spoken.map eL, rfl, hW6.ls.2.2.1.rd, fun d hd => ?_, fun l7 H7 es e7 n7 hp7 hl7 => ?_⟩
    · obtain ⟨l, hl, rfl⟩ := List.mem_map.mp hd
      obtain ⟨_, hne⟩ := hg.sp l hl
      cases l with
      | nil => exact absurd rfl hne
      | cons x l => exact ⟨(x : Int), l.map (fun (x : Nat) => (x : Int)), by simp [eL, eN, List.map_map, Function.comp_def]⟩
    obtain ⟨ls, hls, hll, rfl⟩ := perm_map (fun _ _ => eL_inj) hp7
    obtain ⟨zs, z1, z2⟩ := hl7
    refine r_nil ⟨l7, zs, rfl, .inl ⟨.inl (.inl z1), fun p8 hp8 => ?_⟩⟩
    have e8 : Ext H7 (upd H7 p8 (.tup zs)) := Ext.new hp8
    have g8 : Im K (upd H7 p8 (.tup zs)) (.ref p8) (.tup (ls.map eL)) := .tup (.inl (.inl upd_same)) (z2.to e8.kp)
    generalize upd H7 p8 (.tup zs) = H8 at e8 g8
    refine r_nil ⟨by show 4 ≤ sizeLine; decide, fun p9 hp9 => ?_⟩
    have e9 : Ext H8 (upd H8 p9 (.tup [v1, .ref p4, v5, .ref p8])) := Ext.new hp9
    have e18 := e2.trans (e3.trans (e4.trans (e5.trans (e6.trans (e7.trans e8)))))
    refine hQ _ _ ns ls ((e1.trans e18).trans e9) hns hls (.tup (.inl (.inl upd_same)) (.cons ((g1.to e18.kp).to e9.kp) (.cons ((g4.to (e5.trans (e6.trans (e7.trans e8))).kp).to e9.kp) (.cons ((g5.to (e6.trans (e7.trans e8)).kp).to e9.kp) (.cons (g8.to e9.kp) .nil)))))
end
/-- each step can be done -/
def PathW (mn : Mn) (M : Mach) (G : Tbl) : WS → List Stp → Prop
  | _, [] => True
  | S, st :: r => st ∈ canW M S ∧ PathW mn M G (stepW mn M G S st) r
theorem pathP_W {mn : Mn} {M : Mach} {G : Tbl} : ∀ {S : WS} {sts : List Stp}, PathP mn M G S sts → PathW mn M G S sts
  | _, [], _ => trivial
  | _, _ :: _, ⟨h1, h2⟩ => ⟨canP_canW h1, pathP_W h2⟩
theorem pathW_at {mn : Mn} {M : Mach} {G : Tbl} : ∀ {S : WS} {sts : List Stp} {j : Nat} {st : Stp}, PathW mn M G S sts → sts[j]? = some st → st ∈ canW M (runW mn M G S (sts.take j))
  | _, [], _, _, _, h => by simp at h
  | S, a :: r, 0, st, ⟨h1, _⟩, h => by
    simp at h
    subst h
    exact h1
  | S, a :: r, j + 1, st, ⟨_, h2⟩, h => pathW_at (S := stepW mn M G S a) h2 (by simpa using h)
theorem run_good {mn : Mn} {M : Mach} {G : Tbl} {m : Nat} (hH : House M G m) : ∀ {sts : List Stp} {n : Nat} {S : WS}, GoodW M G n S → LateW mn S → PathW mn M G S sts → GoodW M G (n + sts.length) (runW mn M G S sts) ∧ LateW mn (runW mn M G S sts)
  | [], n, S, g, l, _ => ⟨g, l⟩
  | st :: r, n, S, g, l, ⟨h1, h2⟩ => by
    have z := run_good hH (step_good hH g l h1) (step_late (st := st) l) h2
    rw [List.length_cons, show n + (r.length + 1) = n + 1 + r.length by omega]
    exact z
theorem pathW_take {mn : Mn} {M : Mach} {G : Tbl} : ∀ {S : WS} {sts : List Stp} (j : Nat), PathW mn M G S sts → PathW mn M G S (sts.take j)
  | _, [], j, _ => by simp [PathW]
  | _, _ :: _, 0, _ => trivial
  | S, a :: r, j + 1, ⟨h1, h2⟩ => ⟨h1, pathW_take (S := stepW mn M G S a) j h2⟩
section
variable {P : Program} {w : World} {K : PySem.W.Frag} {mg : Str → Option Value} {base : Heap}
def R_wrong_step (ds : List Dt) (mn : Mn) (M : Mach) (G : Tbl) (S : WS) (d : Dt) (S' : WS) : Prop := ∃ (m n : Nat) (sts : List Stp), ds = [.tup (sts.map eStp)] ∧ House M G m ∧ GoodW M G n S ∧ LateW mn S ∧ n + sts.length ≤ 60 ∧ PathW mn M G S sts ∧ d = .non ∧ S' = runW mn M G S sts
theorem sc_wrong_step : FnScope ["world", "story", "index", "step"] ["world", "story"] (defScope s_wrong_step) := ⟨rfl, rfl, rfl, by decide +kernel, rfl, by decide +kernel, by decide +kernel⟩
theorem ok_wrong_step (T : Txt w K mg base) : Ok P w K mg base 11 ("wrong_step", none) ["world", "story"] (SpW K (TL K) R_wrong_step) := by
  obtain ⟨⟨fd_w_do, F_w_do, b_w_do⟩, k_w_do⟩ := ok_w_do (P := P) T
  refine ok_of (k := 10) T.f_wrong_step sc_wrong_step (fun vs H Q E h => ?_) (fun _ _ _ _ _ _ us hl => match us, hl with | [_, _], _ => rfl) (fun cdv A outer s H vs Q E hr h => ?_)
  · obtain ⟨p, n, s, q, rest, ds, mn, M, G, S, S', d, rfl, hi, _, _, ⟨m, nn, sts, rfl, _⟩, _⟩ := h
    rw [List.length_cons, hi.length]
    rfl
  · obtain ⟨p, n, s, q, rest, ds, mn, M, G, S, S', d, rfl, hi, hT, hW, ⟨m, nn, sts, rfl, hH, hg, hlt, hn, hpath, rfl, rfl⟩, hQ⟩ := h
    cases hi with | cons h1 hi =>
    cases hi
    rename_i vs
    refine ⟨_, (pss_cons (ps_for PassesOwn.never rfl (pi_enumT (by rfl) T.g_enumerate (pa_cons (pv 1) pa_nil)) (pg_tup rfl (pgs_cons (pg_name (i := 2) sc_wrong_step.nd rfl (Or.inl rfl)) (pgs_cons (pg_name (i := 3) sc_wrong_step.nd rfl (Or.inl rfl)) pgs_nil)))
        (pss_one (ps_if (pt_not (pt_val (pe_meth (pv 0) T.c_World T.m_w_do F_w_do (hr.mono (by decide)) b_w_do .nil pass0 (pa_cons (pv 3) pa_nil)))) (pss_one (ps_ret (pv 2))) pss_nil)))
      (pss_one (ps_ret pe_non))), ?_⟩
    try dsimp only [cxOf, Cx.nox, Cx.wish]
    refine rd_start [some (.ref p), some vs, none, none] ?_
    refine q_seq (st_forE (ed_v h1) (fun H2 j σ' H' => ∃ a b, σ' = [some (.ref p), some vs, a, b] ∧ Chg [p, n, s, q] H H' ∧ Kp H2 H' ∧ WAt K H' p n s q mn M G (runW mn M G S (sts.take j))) (fun H2 e2 => ⟨none, none, rfl, e2.chg, Kp.refl _, hW.to e2⟩) ?_ ?_ ?_)
    · rintro H2 j σ' H' ⟨_, _, _, _, q, _⟩
      exact q
    · rintro H2 j v d σ' H3 H4 e2 hd ⟨a, b, rfl, c3, k3, hW3⟩ e4 hv
      rw [List.getElem?_map] at hd
      obtain ⟨st, hst, rfl⟩ := Option.map_eq_some_iff.mp hd
      have hj := (List.getElem?_eq_some_iff.mp hst).1
      refine g_pair hv fun x y hx hy => ?_
      refine rd_start' [some (.ref p), some vs, some x, some y] ?_
      have z := run_good hH hg hlt (pathW_take j hpath)
      have hl : (sts.take j).length ≤ j := by rw [List.length_take]; omega
      have hc := pathW_at hpath hst
      refine st_ifN (st_wCall ev_v (hW3.to e4) (ea_cons (ed_v hy) ea_nil) hT (by walk_at "kp") ⟨st, rfl, m, nn + (sts.take j).length, hH, z.1, by omega, hc, rfl, rfl⟩ _ fun v H5 c5 hv5 hW5 => ⟨true, ?_, ?_⟩)
      · cases hv5
        rfl
      · rw [Bool.not_true, if_neg Bool.false_ne_true]
        refine ⟨_, _, rfl, c3.trans (e4.chg.trans c5), k3.trans (e4.kp.trans c5.kp), ?_⟩
        rw [take_snoc' hst, run_snoc]
        exact hW5
    · rintro H2 σ' H' e2 ⟨a, b, rfl, c3, k3, hW3⟩
      rw [List.length_map, List.take_length] at hW3
      dsimp only
      exact st_ret (K := K) ed_non fun v H3 e3 hv => hQ v H3 (c3.trans e3.chg) hv (hW3.to e3)
end
end K29
set_option Elab.async false
set_option linter.all false
set_option maxRecDepth 100000
set_option maxHeartbeats 4000000
/-! the program: a level of the search -/
namespace K29
open PySem PySem.Spec PyProof.Rows L2
local macro_rules | `(tactic| walk_at "kp") => `(tactic| first | exact Kp.refl _ | assumption | exact Chg.kp (by assumption) | (refine Kp.trans ?_ (Chg.kp (by assumption)); walk_at "kp"))
local macro_rules | `(tactic| walk_at "ext") => `(tactic| first | exact Ext.refl _ | assumption | (refine Ext.trans ?_ (by assumption); walk_at "ext"))

/-- a world and its story, none of it at B -/
def StB (K : PySem.W.Frag) (B : List Addr) (mn : Mn) (M : Mach) (G : Tbl) (H : Hp) (x : V) (e : WS × List Stp) : Prop :=
  ∃ (a p n s q : Addr) (v : V), x = .ref a ∧ SqT K H a [.ref p, v] ∧ WAt K H p n s q mn M G e.1 ∧ Im K H v (.tup (e.2.map eStp)) ∧ p ∉ B ∧ n ∉ B ∧ s ∉ B ∧ q ∉ B
/-- the steps done so far -/
def DnS (mn : Mn) (M : Mach) (es : List (WS × List Stp)) (i s : Nat) (e : WS × List Stp) (st : Stp) : Prop := ∃ i' s', (i' < i ∨ (i' = i ∧ s' < s)) ∧ es[i']? = some e ∧ (canP mn M e.1)[s']? = some st
structure GoneD (mn : Mn) (M : Mach) (G : Tbl) (dn : WS × List Stp → Stp → Prop) (qs : List Dt) (es' : List (WS × List Stp)) (qs' : List Dt) : Prop where
  from_ : ∀ e' ∈ es', ∃ e st, dn e st ∧ e' = (stepW mn M G e.1 st, e.2 ++ [st])
  sub : ∀ x ∈ qs, x ∈ qs'
  pic : ∀ x ∈ qs', x ∈ qs ∨ ∃ e' ∈ es', IsPic e'.1 x
  all : ∀ e st, dn e st → ∃ x ∈ qs', IsPic (stepW mn M G e.1 st) x
section
variable {mn : Mn} {M : Mach} {G : Tbl} {es es' : List (WS × List Stp)} {qs qs' : List Dt} {i s : Nat} {e : WS × List Stp} {st : Stp}
theorem gone_zero : GoneD mn M G (DnS mn M es 0 0) qs [] qs := by
  refine ⟨fun e' h => (by cases h), fun _ h => h, fun _ h => Or.inl h, fun e st h => ?_⟩
  obtain ⟨i', s', h, _⟩ := h
  omega
theorem dn_next (he : es[i]? = some e) (hst : (canP mn M e.1)[s]? = some st) {e' : WS × List Stp} {st' : Stp} : DnS mn M es i (s + 1) e' st' ↔ DnS mn M es i s e' st' ∨ (e' = e ∧ st' = st) := by
  constructor
  · rintro ⟨i', s', h, h1, h2⟩
    by_cases z : i' = i ∧ s' = s
    · obtain ⟨rfl, rfl⟩ := z
      rw [he] at h1
      cases h1
      rw [hst] at h2
      cases h2
      exact .inr ⟨rfl, rfl⟩
    · exact .inl ⟨i', s', by omega, h1, h2⟩
  · rintro (⟨i', s', h, h1, h2⟩ | ⟨rfl, rfl⟩)
    · exact ⟨i', s', by omega, h1, h2⟩
    · exact ⟨i, s, by omega, he, hst⟩
theorem dn_done (he : es[i]? = some e) {e' : WS × List Stp} {st' : Stp} : DnS mn M es i (canP mn M e.1).length e' st' ↔ DnS mn M es (i + 1) 0 e' st' := by
  constructor
  · rintro ⟨i', s', h, h1, h2⟩
    exact ⟨i', s', by omega, h1, h2⟩
  · rintro ⟨i', s', h, h1, h2⟩
    refine ⟨i', s', ?_, h1, h2⟩
    by_cases z : i' = i
    · subst z
      rw [he] at h1
      cases h1
      exact .inr ⟨rfl, (List.getElem?_eq_some_iff.mp h2).1⟩
    · omega
theorem gone_iff {dn dn' : WS × List Stp → Stp → Prop} (h : ∀ e st, dn e st ↔ dn' e st) (g : GoneD mn M G dn qs es' qs') : GoneD mn M G dn' qs es' qs' :=
by
  refine ⟨fun e' he' => ?_, g.sub, g.pic, fun e st hd => g.all e st ((h e st).mpr hd)⟩
  obtain ⟨e, st, h1, h2⟩ := g.from_ e' he'
  exact ⟨e, st, (h e st).mp h1, h2⟩
/-- seen before -/
theorem gone_old (he : es[i]? = some e) (hst : (canP mn M e.1)[s]? = some st) (g : GoneD mn M G (DnS mn M es i s) qs es' qs') {x : Dt} (hp : IsPic (stepW mn M G e.1 st) x) (hx : x ∈ qs') : GoneD mn M G (DnS mn M es i (s + 1)) qs es' qs' := by
  refine ⟨fun e' he' => ?_, g.sub, g.pic, fun e' st' hd => ?_⟩
  · obtain ⟨e2, st2, h1, h2⟩ := g.from_ e' he'
    exact ⟨e2, st2, (dn_next he hst).mpr (.inl h1), h2⟩
  · rcases (dn_next he hst).mp hd with z | ⟨rfl, rfl⟩
    · exact g.all e' st' z
    · exact ⟨x, hx, hp⟩
/-- new -/
theorem gone_new (he : es[i]? = some e) (hst : (canP mn M e.1)[s]? = some st) (g : GoneD mn M G (DnS mn M es i s) qs es' qs') {x : Dt} (hp : IsPic (stepW mn M G e.1 st) x) : GoneD mn M G (DnS mn M es i (s + 1)) qs (es' ++ [(stepW mn M G e.1 st, e.2 ++ [st])]) (qs' ++ [x]) := by
  refine ⟨fun e' he' => ?_, fun y hy => List.mem_append_left _ (g.sub y hy), fun y hy => ?_, fun e' st' hd => ?_⟩
  · rcases List.mem_append.mp he' with z | z
    · obtain ⟨e2, st2, h1, h2⟩ := g.from_ e' z
      exact ⟨e2, st2, (dn_next he hst).mpr (.inl h1), h2⟩
    · exact ⟨e, st, (dn_next he hst).mpr (.inr ⟨rfl, rfl⟩), List.mem_singleton.mp z⟩
  · rcases List.mem_append.mp hy with z | z
    · rcases g.pic y z with w | ⟨e', w1, w2⟩
      · exact .inl w
      · exact .inr ⟨e', List.mem_append_left _ w1, w2⟩
    · cases List.mem_singleton.mp z
      exact .inr ⟨_, List.mem_append_right _ (List.mem_singleton.mpr rfl), hp⟩
  · rcases (dn_next he hst).mp hd with z | ⟨rfl, rfl⟩
    · obtain ⟨y, w1, w2⟩ := g.all e' st' z
      exact ⟨y, List.mem_append_left _ w1, w2⟩
    · exact ⟨x, List.mem_append_right _ (List.mem_singleton.mpr rfl), hp⟩
theorem gone_all (g : GoneD mn M G (DnS mn M es es.length 0) qs es' qs') : Gone mn M G es qs es' qs' := by
  refine ⟨fun e' he' => ?_, g.sub, g.pic, fun e he st hst => ?_⟩
  · obtain ⟨e, st, ⟨i', s', _, h1, h2⟩, h3⟩ := g.from_ e' he'
    exact ⟨e, List.mem_of_getElem? h1, st, List.mem_of_getElem? h2, h3⟩
  · obtain ⟨i, hi, ei⟩ := List.mem_iff_getElem.mp he
    obtain ⟨s, hs, es'⟩ := List.mem_iff_getElem.mp hst
    exact g.all e st ⟨i, s, .inl hi, by rw [List.getElem?_eq_getElem hi, ei], by rw [List.getElem?_eq_getElem hs, es']⟩
theorem canP_len {m n : Nat} {S : WS} (hH : House M G m) (g : GoodW M G n S) (k : n ≤ 6) : (canP mn M S).length ≤ 7 := by
  have h := optsN_len hH g k
  unfold canP
  cases hs : S.stand with
  | off =>
    dsimp only
    rw [List.length_map]
    have e : (canW M S).length = S.shelf.length := by
      unfold canW
      rw [hs]
      simp
    have := List.length_filter_le (fun t => fitsW mn S.rd t) S.shelf
    omega
  | _ => exact h
end
section
variable {K : PySem.W.Frag} {H H' H0 H1 H2 : Hp} {σ : L2.St} {te td tv ta tb : TE} {D : Ends} {tz : TS} {p n s q a d : Addr} {mn : Mn} {M : Mach} {G : Tbl} {S : WS} {P : Program} {w : World} {E : XK} {TL : List Addr} {x y v : V} {e : WS × List Stp} {B : List Addr} {m : Nat}
theorem StB.to (h : StB K B mn M G H x e) (z : Ext H H') : StB K B mn M G H' x e := by
  obtain ⟨a, p, n, s, q, v, h1, h2, h3, h4, h5⟩ := h
  exact ⟨a, p, n, s, q, v, h1, z.kp.sqT h2, h3.to z, h4.to z.kp, h5⟩
theorem StB.chg {A : List Addr} (h : StB K B mn M G H x e) (z : Chg A H H') (hA : ∀ b ∈ A, b ∈ B) : StB K B mn M G H' x e := by
  obtain ⟨a, p, n, s, q, v, h1, h2, h3, h4, h5, h6, h7, h8⟩ := h
  exact ⟨a, p, n, s, q, v, h1, z.kp.sqT h2, h3.chg z (fun w => h5 (hA _ w)) (fun w => h6 (hA _ w)) (fun w => h7 (hA _ w)) (fun w => h8 (hA _ w)), h4.to z.kp, h5, h6, h7, h8⟩
theorem StB.less {B' : List Addr} (h : StB K B mn M G H x e) (hA : ∀ b ∈ B', b ∈ B) : StB K B' mn M G H x e := by
  obtain ⟨a, p, n, s, q, v, h1, h2, h3, h4, h5, h6, h7, h8⟩ := h
  exact ⟨a, p, n, s, q, v, h1, h2, h3, h4, fun w => h5 (hA _ w), fun w => h6 (hA _ w), fun w => h7 (hA _ w), fun w => h8 (hA _ w)⟩
theorem g_pairV {i j : Nat} {Q : L2.St → Hp → Prop} (h : SqT K H a [x, y]) (k : Q ((σ.set i (some x)).set j (some y)) H) : gTup K 2 (gCons (gName i) (gCons (gName j) gNil)) (.ref a) σ H Q := ⟨_, _, rfl, h, rfl, _, _, rfl, _, _, rfl, rfl, k⟩
theorem q_twin {i : Nat} (h0 : EdV ta σ H (.ref p)) (hW : WAt K H p n s q mn M G S) (k : ∀ p' n' s' q' H1, Ext H H1 → H p' = none → H n' = none → H s' = none → H q' = none → WAt K H1 p' n' s' q' mn M G S → tz D (σ.set i (some (.ref p'))) H1) : tSeq (tAsg (tMeth (He.ga K "World") "twin" (SpTwin K) [] E ta tNil) (gName i)) tz D σ H :=
  h0 H (Ext.refl H) _ fun H2 e2 => by
    obtain ⟨dx, a, b, d', e', g0, _⟩ := hW.to e2
    exact ⟨p, dx, _, rfl, g0, rfl, p, n, s, q, mn, M, G, S, rfl, hW.to e2, fun p' n' s' q' H3 e3 h1 h2 h3 h4 hW3 => k p' n' s' q' H3 (e2.trans e3) (e2.free h1) (e2.free h2) (e2.free h3) (e2.free h4) hW3⟩
theorem q_pic {i nn : Nat} (h0 : EdV ta σ H (.ref p)) (hW : WAt K H p n s q mn M G S) (hT : Tabs TL H0) (hk : Kp H0 H) (hH : House M G m) (hg : GoodW M G nn S) (hn : nn ≤ 60) (k : ∀ a H1 x, Ext H H1 → IsPic S x → Im K H1 (.ref a) x → ok 8 x = true → tz D (σ.set i (some (.ref a))) H1) : tSeq (tAsg (tCall (SpPic K TL) [] E (tCons ta tNil)) (gName i)) tz D σ H :=
  h0 H (Ext.refl H) _ fun H2 e2 => ⟨p, n, s, q, mn, M, G, m, nn, S, rfl, hT.to (hk.trans e2.kp), hW.to e2, hH, hg, hn, fun v H3 ns ls e3 h1 h2 hv => by
    have hok : ok 8 (picD S ns ls) = true := by
      refine ok_tup fun d hd => ?_
      simp only [List.mem_cons, List.not_mem_nil, or_false] at hd
      rcases hd with rfl | rfl | rfl | rfl
      · exact ok_eRd
      · refine ok_tup fun d hd => ?_
        obtain ⟨t, _, rfl⟩ := List.mem_map.mp hd
        exact ok_eNt
      · exact ok_eSg
      · refine ok_tup fun d hd => ?_
        obtain ⟨t, _, rfl⟩ := List.mem_map.mp hd
        exact ok_eL
    have key : ∃ a, v = .ref a := by
      cases hv
      exact ⟨_, rfl⟩
    obtain ⟨a, rfl⟩ := key
    exact k a H3 _ (e2.trans e3) ⟨ns, ls, h1, h2, rfl⟩ hv hok⟩
theorem et_ninSeen {qs : List Dt} {z : Dt} {k : Bool} (h1 : EdV ta σ H (.ref a)) (h2 : EdV tb σ H (.ref d)) (hs : SeenAt P w K H d qs) (hz : Im K H (.ref a) z) (ho : ok 8 z = true) (hk : k = true ↔ z ∉ qs) : EdT (tTest (tOp (rSeen P w K true) ta tb)) σ H k := fun H1 e Q r =>
  h1 H1 e _ fun H2 e2 => h2 H2 (e.trans e2) _ fun H3 e3 => ⟨d, a, qs, z, rfl, rfl, hs.to (e.trans (e2.trans e3)), hz.to (e.trans (e2.trans e3)).kp, ho, fun c hc => by
    have ec : (!c) = k := by
      rw [Bool.eq_iff_iff, Bool.not_eq_true', ← Bool.not_eq_true, hc, hk]
    refine ⟨!c, rfl, ?_⟩
    rw [ec]
    exact r H3 (e2.trans e3)⟩
theorem q_setSeen {qs : List Dt} {z : Dt} (h1 : EdV ta σ H (.ref a)) (h2 : EdV tb σ H (.ref d)) (hs : SeenAt P w K H d qs) (hz : Im K H (.ref a) z) (ho : ok 8 z = true) (hn : z ∉ qs) (hl : qs.length < 1000000) (k : ∀ H1, Chg [d] H H1 → SeenAt P w K H1 d (qs ++ [z]) → tz D σ H1) : tSeq (tAsg (tC (.bl true)) (gSub tb ta (rSetSeen P w K))) tz D σ H :=
  h2 H (Ext.refl H) _ fun H2 e2 => h1 H2 e2 _ fun H3 e3 => ⟨d, a, qs, z, rfl, rfl, rfl, hs.to (e2.trans e3), hz.to (e2.trans e3).kp, ho, hn, hl, fun H4 c4 hs4 => k H4 ((e2.trans e3).chg.trans c4) hs4⟩
/-- something new is put behind a list -/
theorem st_appE {l : Addr} {xs : List V} {R : V → Hp → Prop} (hl : H l = some (.lst xs)) (ha : EdV ta σ H (.ref l)) (h : ∀ H1, Ext H H1 → ∀ Q : VK, (∀ v H2, Ext H1 H2 → R v H2 → Q v H2) → te σ H1 Q) (hz : xs.length < 1000000) (k : ∀ v H1 H2, Ext H H1 → R v H1 → Chg [l] H1 H2 → H2 l = some (.lst (xs ++ [v])) → D.nx σ H2) :
    tDrop (tBM K "list" rAppend ta (tCons te tNil)) D σ H := ha H (Ext.refl H) _ fun H1 e1 => by
  refine ⟨Or.inl ⟨rfl, _, Or.inl (Or.inl (e1.get hl))⟩, ?_⟩
  refine h H1 e1 _ fun v H2 e2 hr => ?_
  have b1 := (e1.trans e2).get hl
  exact ⟨l, xs, v, rfl, rfl, b1, Nat.lt_of_lt_of_le hz (by decide), k v H2 _ (e1.trans e2) hr (Chg.put b1) upd_same⟩
theorem seen_live {qs : List Dt} (h : SeenAt P w K H d qs) : ∃ φ, H d = some (.ext φ) := by
  obtain ⟨ks, h1, _⟩ := h
  exact ⟨_, h1⟩
end
end K29
set_option Elab.async false
set_option linter.all false
set_option maxRecDepth 100000
set_option maxHeartbeats 4000000
/-! the program: a level of the search, the walk -/
namespace K29
open PySem PySem.Spec PyProof.Rows L2
local macro_rules | `(tactic| walk_at "kp") => `(tactic| first | exact Kp.refl _ | assumption | exact Chg.kp (by assumption) | (refine Kp.trans ?_ (Chg.kp (by assumption)); walk_at "kp"))
local macro_rules | `(tactic| walk_at "ext") => `(tactic| first | exact Ext.refl _ | assumption | (refine Ext.trans ?_ (by assumption); walk_at "ext"))

section
variable {K : PySem.W.Frag} {H H0 : Hp} {σ : L2.St} {ta : TE} {p n s q : Addr} {mn : Mn} {M : Mach} {G : Tbl} {S : WS} {E : XK} {TL : List Addr} {es : List Dt}
theorem r_tupE {H : Hp} {t : TA} {Q : VK} (h : t σ H fun xs H1 => xs.length ≤ sizeLine ∧ ∀ p, H1 p = none → Q (.ref p) (upd H1 p (.tup xs))) : tTup t σ H Q := h
/-- a def over a World that hands back a new list -/
theorem en_wCallGx {R : List Dt → Mn → Mach → Tbl → WS → List Dt → Prop} (h0 : EdV ta σ H (.ref p)) (hW : WAt K H p n s q mn M G S) (ht : Tabs TL H0) (hk : Kp H0 H) (hr : R [] mn M G S es) : EdN K (tCall (SpWG K TL R) [] E (tCons ta tNil)) σ H es := fun H1 e Q z =>
  h0 H1 e _ fun H2 e2 => ⟨p, n, s, q, [], [], mn, M, G, S, es, rfl, .nil, ht.to ((hk.trans e.kp).trans e2.kp), hW.to (e.trans e2), hr, fun l H3 e3 hn hv => z l H3 (e2.trans e3) (e2.free hn) hv⟩
theorem ed_wCallFx {R : List Dt → Mn → Mach → Tbl → WS → Dt → Prop} {d : Dt} (h0 : EdV ta σ H (.ref p)) (hW : WAt K H p n s q mn M G S) (ht : Tabs TL H0) (hk : Kp H0 H) (hr : R [] mn M G S d) : Ed K (tCall (SpWF K TL R) [] E (tCons ta tNil)) σ H d := fun H1 e Q z =>
  h0 H1 e _ fun H2 e2 => ⟨p, n, s, q, [], [], mn, M, G, S, d, rfl, .nil, ht.to ((hk.trans e.kp).trans e2.kp), hW.to (e.trans e2), hr, fun v H3 e3 hv => z v H3 (e2.trans e3) hv⟩
end
section
variable {P : Program} {w : World} {K : PySem.W.Frag} {mg : Str → Option Value} {base : Heap}
def SpGone (P : Program) (w : World) (K : PySem.W.Frag) (TL : List Addr) : Sp := fun vs H Q _ => ∃ (L D : Addr) (xs : List V) (es : List (WS × List Stp)) (qs : List Dt) (mn : Mn) (M : Mach) (G : Tbl) (m k : Nat), vs = [.ref L, .ref D] ∧ Tabs TL H ∧ H L = some (.lst xs) ∧ Paired (StB K [D] mn M G H) xs es ∧ SeenAt P w K H D qs ∧ House M G m ∧ k ≤ 6 ∧
  (∀ e ∈ es, GoodW M G k e.1 ∧ LateW mn e.1 ∧ e.2.length ≤ 100) ∧ es.length ≤ 117649 ∧ qs.length ≤ 140000 ∧
  ∀ L' H' xs' es' qs', Chg [D] H H' → H L' = none → H' L' = some (.lst xs') → Paired (StB K [D] mn M G H') xs' es' → SeenAt P w K H' D qs' → Gone mn M G es qs es' qs' → es'.length ≤ 7 * es.length → qs'.length ≤ qs.length + 7 * es.length → Q (.ref L') H'
theorem sc_gone_on : FnScope ["stands", "seen", "found", "world", "story", "step", "later", "picture"] ["stands", "seen"] (defScope s_gone_on) := ⟨rfl, rfl, rfl, by decide +kernel, rfl, by decide +kernel, by decide +kernel⟩
theorem ok_gone_on (T : Txt w K mg base) : Ok P w K mg base 12 ("gone_on", none) ["stands", "seen"] (SpGone P w K (TL K)) := by
  obtain ⟨⟨fd_steps_from, F_steps_from, b_steps_from⟩, k_steps_from⟩ := ok_steps_from (P := P) T
  obtain ⟨⟨fd_w_twin, F_w_twin, b_w_twin⟩, k_w_twin⟩ := ok_w_twin (P := P) T
  obtain ⟨⟨fd_w_do, F_w_do, b_w_do⟩, k_w_do⟩ := ok_w_do (P := P) T
  obtain ⟨⟨fd_picture_of, F_picture_of, b_picture_of⟩, k_picture_of⟩ := ok_picture_of (P := P) T
  refine ok_of (k := 11) T.f_gone_on sc_gone_on (fun vs H Q E h => ?_) (fun _ _ _ _ _ _ us hl => match us, hl with | [_, _], _ => rfl) (fun cdv A outer s H vs Q E hr h => ?_)
  · obtain ⟨L, D, xs, es, qs, mn, M, G, m, k, rfl, _⟩ := h
    rfl
  · obtain ⟨L, D, xs, es, qs, mn, M, G, m, k, rfl, hT, hL, hps, hsn, hH, hk6, hgood, hel, hql, hQ⟩ := h
    refine ⟨_, (pss_cons (ps_set (i := 2) sc_gone_on.nd rfl (Or.inl rfl) (pe_lst pa_nil))
      (pss_cons (ps_for PassesOwn.never rfl (pi_list (pv 0)) (pg_tup rfl (pgs_cons (pg_name (i := 3) sc_gone_on.nd rfl (Or.inl rfl)) (pgs_cons (pg_name (i := 4) sc_gone_on.nd rfl (Or.inl rfl)) pgs_nil)))
        (pss_one (ps_for PassesOwn.never rfl (pi_list (pe_call F_steps_from (hr.mono (by decide)) (by rfl) T.g_steps_from k_steps_from b_steps_from .nil pass0 (pa_cons (pv 3) pa_nil))) (pg_name (i := 5) sc_gone_on.nd rfl (Or.inl rfl))
          (pss_cons (ps_set (i := 6) sc_gone_on.nd rfl (Or.inl rfl) (pe_meth0 (pv 3) T.c_World T.m_w_twin F_w_twin (hr.mono (by decide)) b_w_twin .nil pass0))
          (pss_cons (ps_expr (pe_meth (pv 6) T.c_World T.m_w_do F_w_do (hr.mono (by decide)) b_w_do .nil pass0 (pa_cons (pv 5) pa_nil)))
          (pss_cons (ps_set (i := 7) sc_gone_on.nd rfl (Or.inl rfl) (pe_call F_picture_of (hr.mono (by decide)) (by rfl) T.g_picture_of k_picture_of b_picture_of .nil pass0 (pa_cons (pv 6) pa_nil)))
          (pss_one (ps_if (pt_cmpR (r := rSeen P w K true) (op_ninSeen (u65 hr)) (pv 7) (pv 1) (by with_unfolding_all rfl)) (pss_cons (ps_asg pe_bl (pg_sub (pv 1) (pv 7) (set_seen (u65 hr))))
            (pss_one (ps_expr (pe_bm PySem.F.plainAttrs_list PySem.F.slot_list_append PySem.F.type_list_append mt_append (pv 2) (pa_cons (pe_tup (pa_cons (pv 6) (pa_cons (pe_op (r := rAddX K) op_addX (pv 4) (pe_tup (pa_cons (pv 5) pa_nil))) pa_nil))) pa_nil))))) pss_nil))))))))
      (pss_one (ps_ret (pv 2))))), ?_⟩
    try dsimp only [cxOf, Cx.nox, Cx.wish]
    refine rd_start [some (.ref L), some (.ref D), none, none, none, none, none, none] ?_
    have hpl := paired_len hps
    obtain ⟨φ, hDx⟩ := seen_live hsn
    have hLD : L ≠ D := fun z => by
      rw [z, hDx] at hL
      cases hL
    refine q_setN (K := K) (en_lst ea_nil (by simp)) fun F H1 e1 nF hF => ?_
    obtain ⟨ys, hF1, hys⟩ := hF
    cases hys
    refine rd_start' [some (.ref L), some (.ref D), some (.ref F), none, none, none, none, none] ?_
    have hFD : F ≠ D := fun z => by
      rw [z, hDx] at nF
      cases nF
    have hFL : F ≠ L := fun z => by
      rw [z, hL] at nF
      cases nF
    have DF : ∀ {H'}, Chg [D, F] H H' → Chg [D] H H' := fun {H'} c => ⟨c.kp, fun b o nb hb t => c.obj b o (fun z => by
      rcases List.mem_cons.mp z with rfl | z
      · exact nb (by simp)
      · rw [List.mem_singleton.mp z, nF] at hb
        cases hb) hb t⟩
    refine q_seq (st_forV ev_v (e1.get hL) (fun i σ' H' => ∃ (xs' : List V) (es' : List (WS × List Stp)) (qs' : List Dt) (a b c d e : Option V), σ' = [some (.ref L), some (.ref D), some (.ref F), a, b, c, d, e] ∧ Chg [D, F] H H' ∧ H' F = some (.lst xs') ∧ Paired (StB K [D, F] mn M G H') xs' es' ∧ SeenAt P w K H' D qs' ∧
      GoneD mn M G (DnS mn M es i 0) qs es' qs' ∧ es'.length ≤ 7 * i ∧ qs'.length ≤ qs.length + 7 * i) (fun H2 e2 => ⟨[], [], qs, none, none, none, none, none, rfl, (e1.trans e2).chg, e2.get hF1, .nil, hsn.to (e1.trans e2), gone_zero, Nat.zero_le _, Nat.le_refl _⟩) ?_ ?_ ?_)
    · rintro i σ' H' ⟨xs', es', qs', a, b, c, d, e, rfl, cg, _⟩
      exact cg.obj L _ (by simp [hLD, Ne.symm hFL]) hL (by intro ps z; cases z)
    · rintro i v σ' H2 hv ⟨xs', es', qs', a, b, c, d, e, rfl, c2, hF2, hps2, hsn2, hgo, hl1, hl2⟩
      obtain ⟨en, hen, hst⟩ := paired_get hps hv
      have hi := (List.getElem?_eq_some_iff.mp hen).1
      have henm := List.mem_of_getElem? hen
      obtain ⟨hg, hlate, hlen⟩ := hgood en henm
      have hcl := canP_len (mn := mn) hH hg hk6
      have hst2 := hst.chg (DF c2) (fun b hb => hb)
      obtain ⟨at_, p, n, s, q, vst, rfl, hsq, hW, hvst, hp, hn, hs, hq⟩ := hst
      have hsq2 := c2.kp.sqT hsq
      have WD : ∀ {H'}, Chg [D, F] H H' → WAt K H' p n s q mn M G en.1 := fun {H'} c => hW.chg (DF c) hp hn hs hq
      refine g_pairV hsq2 ?_
      refine rd_start' [some (.ref L), some (.ref D), some (.ref F), some (.ref p), some vst, c, d, e] ?_
      have liv : ∀ b ∈ [D, F], H2 b ≠ none := fun b hb => by
        rcases List.mem_cons.mp hb with rfl | hb
        · obtain ⟨ψ, hψ⟩ := seen_live hsn2
          rw [hψ]
          simp
        · rw [List.mem_singleton.mp hb, hF2]
          simp
      refine st_forN (en_wCallGx ev_v (WD c2) hT c2.kp ⟨m, k, rfl, hH, hg, by omega, rfl⟩) [D, F] liv (fun H3 s σ' H' => ∃ (xs' : List V) (es' : List (WS × List Stp)) (qs' : List Dt) (c d e : Option V), σ' = [some (.ref L), some (.ref D), some (.ref F), some (.ref p), some vst, c, d, e] ∧ Chg [D, F] H H' ∧ Chg [D, F] H3 H' ∧ H' F = some (.lst xs') ∧ Paired (StB K [D, F] mn M G H') xs' es' ∧ SeenAt P w K H' D qs' ∧
        GoneD mn M G (DnS mn M es i s) qs es' qs' ∧ es'.length ≤ 7 * i + s ∧ qs'.length ≤ qs.length + (7 * i + s)) (fun H3 e3 => ⟨xs', es', qs', c, d, e, rfl, c2.trans e3.chg, Chg.refl _ _, e3.get hF2, paired_imp (fun x y z => z.to e3) hps2, hsn2.to e3, hgo, hl1, hl2⟩) ?_ ?_ ?_
      · rintro H3 s σ' H' ⟨_, _, _, _, _, _, _, _, z, _⟩
        exact z
      · rintro H3 j v d0 σ' H4 e3 hd ⟨xs', es', qs', c, d, e, rfl, c4, c34, hF4, hps4, hsn4, hgo4, hl14, hl24⟩ hv
        rw [List.getElem?_map] at hd
        obtain ⟨st, hstj, rfl⟩ := Option.map_eq_some_iff.mp hd
        have hj := (List.getElem?_eq_some_iff.mp hstj).1
        have hstP := List.mem_of_getElem? hstj
        have hstW := canP_canW hstP
        refine g_nm [some (.ref L), some (.ref D), some (.ref F), some (.ref p), some vst, some v, d, e] ?_
        have liv4 : ∀ b ∈ [D, F], H4 b ≠ none := fun b hb => by
          rcases List.mem_cons.mp hb with rfl | hb
          · obtain ⟨ψ, hψ⟩ := seen_live hsn4
            rw [hψ]
            simp
          · rw [List.mem_singleton.mp hb, hF4]
            simp
        refine q_twin ev_v (WD c4) fun p' n' s' q' H5 e5 np nn ns nq hW5 => ?_
        refine rd_start' [some (.ref L), some (.ref D), some (.ref F), some (.ref p), some vst, some v, some (.ref p'), e] ?_
        refine q_wCall ev_v hW5 (ea_cons (ed_v hv) ea_nil) hT (by exact c4.kp.trans e5.kp) ⟨st, rfl, m, k, hH, hg, by omega, hstW, rfl, rfl⟩ fun H6 c6 hW6 => ?_
        have e46 : Ext H4 H6 := (e5.chg.trans c6).ext fun b hb => by
          simp only [List.mem_cons, List.not_mem_nil, or_false] at hb
          rcases hb with rfl | rfl | rfl | rfl <;> assumption
        have hgT := step_good (mn := mn) hH hg hlate hstW
        generalize hTe : stepW mn M G en.1 st = T at hW6 hgT
        refine q_pic ev_v hW6 hT (c4.kp.trans e46.kp) hH hgT (by omega) fun pa H7 x e7 hpic hx hok => ?_
        refine rd_start' [some (.ref L), some (.ref D), some (.ref F), some (.ref p), some vst, some v, some (.ref p'), some (.ref pa)] ?_
        have e47 := e46.trans e7
        have hsn7 := hsn4.to e47
        have hF7 := e47.get hF4
        have c7 : Chg [D, F] H H7 := c4.trans e47.chg
        have hW7 := hW6.to e7
        have hpicT : IsPic (stepW mn M G en.1 st) x := by rw [hTe]; exact hpic
        by_cases hin : x ∈ qs'
        · refine st_skip (et_ninSeen ev_v ev_v hsn7 hx hok (show false = true ↔ x ∉ qs' by simp [hin])) fun H8 e8 => ?_
          exact ⟨xs', es', qs', _, _, _, rfl, c7.trans e8.chg, c34.trans (e47.trans e8).chg, e8.get hF7, paired_imp (fun a b z => z.to (e47.trans e8)) hps4, hsn7.to e8, gone_old hen hstj hgo4 hpicT hin, by omega, by omega⟩
        · refine st_do (et_ninSeen ev_v ev_v hsn7 hx hok (show true = true ↔ x ∉ qs' by simp [hin])) fun H8 e8 => ?_
          refine q_setSeen ev_v ev_v (hsn7.to e8) (hx.to e8.kp) hok hin (by omega) fun H9 c9 hsn9 => ?_
          have nB : p' ∉ [D, F] ∧ n' ∉ [D, F] ∧ s' ∉ [D, F] ∧ q' ∉ [D, F] := ⟨fun z => liv4 _ z np, fun z => liv4 _ z nn, fun z => liv4 _ z ns, fun z => liv4 _ z nq⟩
          have nD : p' ∉ [D] ∧ n' ∉ [D] ∧ s' ∉ [D] ∧ q' ∉ [D] := ⟨fun z => nB.1 (by simp [List.mem_singleton.mp z]), fun z => nB.2.1 (by simp [List.mem_singleton.mp z]), fun z => nB.2.2.1 (by simp [List.mem_singleton.mp z]), fun z => nB.2.2.2 (by simp [List.mem_singleton.mp z])⟩
          have hW9 : WAt K H9 p' n' s' q' mn M G T := (hW7.to e8).chg c9 nD.1 nD.2.1 nD.2.2.1 nD.2.2.2
          have hF9 : H9 F = some (.lst xs') := c9.obj F _ (by simp [hFD]) (e8.get hF7) (by intro ps z; cases z)
          have hvst9 : Im K H9 vst (.tup (en.2.map eStp)) := hvst.to ((c7.kp.trans e8.kp).trans c9.kp)
          have hv9 : Im K H9 v (eStp st) := hv.to ((e47.kp.trans e8.kp).trans c9.kp)
          refine st_appE (R := fun u Hu => ∃ a y, u = .ref a ∧ SqT K Hu a [.ref p', y] ∧ Im K Hu y (.tup ((en.2 ++ [st]).map eStp))) hF9 ev_v (fun Ha ea Qa ka => ?_) (by have := paired_len hps4; omega) fun u Ha Hb ea hu cb hFb => ?_
          · refine r_tupE (r_cons (ev_var (H := Ha) rfl Ha (Ext.refl _) _ fun Hc ec => ?_))
            refine r_cons ((ed_op (K := K) (ed_v (hvst9.to (ea.trans ec).kp)) (ed_tup (ea_cons (ed_v (hv9.to (ea.trans ec).kp)) ea_nil) (by simp)) (rd_addT (ds := en.2.map eStp) (es := [eStp st]) (by rw [List.length_map]; simp; omega))) Hc (Ext.refl _) _ fun y Hd ed hy => ?_)
            refine r_nil ⟨by show 2 ≤ sizeLine; decide, fun t ht => ?_⟩
            have et : Ext Hd (upd Hd t (.tup [.ref p', y])) := Ext.new ht
            refine ka _ _ (ec.trans (ed.trans et)) ⟨t, y, rfl, .inl (.inl upd_same), ?_⟩
            rw [List.map_append]
            exact hy.to et.kp
          · obtain ⟨a0, y, rfl, u1, u2⟩ := hu
            have cAll : Chg [D, F] H9 Hb := ea.chg.trans (cb.mono (by simp))
            have c79 : Chg [D, F] H7 Hb := (e8.chg.trans (c9.mono (by simp))).trans cAll
            have hsnb : SeenAt P w K Hb D (qs' ++ [x]) := (hsn9.to ea).chg cb (by simp [Ne.symm hFD])
            refine ⟨xs' ++ [.ref a0], es' ++ [(T, en.2 ++ [st])], qs' ++ [x], _, _, _, rfl, c7.trans c79, c34.trans (e47.chg.trans c79), hFb, paired_app (paired_imp (fun a b z => (z.to e47).chg c79 (fun _ h => h)) hps4) ?_, hsnb, ?_, ?_, ?_⟩
            · exact ⟨a0, p', n', s', q', y, rfl, cb.kp.sqT u1, hW9.chg cAll nB.1 nB.2.1 nB.2.2.1 nB.2.2.2, u2.to cb.kp, nB⟩
            · rw [← hTe]
              exact gone_new hen hstj hgo4 hpicT
            · simp
              omega
            · simp
              omega
      · rintro H3 σ' H4 e3 ⟨xs', es', qs', c, d, e, rfl, c4, c34, hF4, hps4, hsn4, hgo4, hl14, hl24⟩
        rw [List.length_map] at hgo4 hl14 hl24
        exact ⟨xs', es', qs', _, _, c, d, e, rfl, c4, hF4, hps4, hsn4, gone_iff (fun _ _ => dn_done hen) hgo4, by omega, by omega⟩
    · rintro σ' H2 ⟨xs', es', qs', a, b, c, d, e, rfl, c2, hF2, hps2, hsn2, hgo, hl1, hl2⟩
      rw [hpl] at hgo hl1 hl2
      exact ⟨.ref F, rfl, hQ F H2 xs' es' qs' (DF c2) nF hF2 (paired_imp (fun x y z => z.less (by simp)) hps2) hsn2 (gone_all hgo) hl1 hl2⟩
end
end K29
set_option Elab.async false
set_option linter.all false
set_option maxRecDepth 100000
set_option maxHeartbeats 4000000
/-! the program: the least harm, and whether it is that -/
namespace K29
open PySem PySem.Spec PyProof.Rows L2
local macro_rules | `(tactic| walk_at "kp") => `(tactic| first | exact Kp.refl _ | assumption | exact Chg.kp (by assumption) | (refine Kp.trans ?_ (Chg.kp (by assumption)); walk_at "kp"))
local macro_rules | `(tactic| walk_at "ext") => `(tactic| first | exact Ext.refl _ | assumption | (refine Ext.trans ?_ (by assumption); walk_at "ext"))

theorem harm_words {mn : Mn} {M : Mach} {G : Tbl} {S : WS} {x : Str} (h : harmW mn M G S = some x) : x = "two lives" ∨ x = "dead" := by
  unfold harmW at h
  split at h
  · cases h
    exact .inl rfl
  · split at h
    · cases h
      exact .inr rfl
    · cases h
theorem harm_ok {mn : Mn} {M : Mach} {G : Tbl} {S : WS} {x : Str} (h : harmW mn M G S = some x) : PyData.strOk x = true := by
  rcases harm_words h with rfl | rfl
  · exact (show PyData.strOk "two lives" = true by decide +kernel)
  · exact (show PyData.strOk "dead" = true by decide +kernel)
section
variable {K : PySem.W.Frag} {H H0 : Hp} {σ : L2.St} {ta tm : TE} {p n s q : Addr} {mn : Mn} {M : Mach} {G : Tbl} {S S' : WS} {E : XK} {TL : List Addr} {ds : List Dt} {d : Dt} {tr : TA} {Q : VK} {D : Ends} {tu tw : TS}
theorem st_wCallx {R : List Dt → Mn → Mach → Tbl → WS → Dt → WS → Prop} (h0 : EdV ta σ H (.ref p)) (hW : WAt K H p n s q mn M G S) (h : EdA K tr σ H ds) (ht : Tabs TL H0) (hk : Kp H0 H) (hr : R ds mn M G S d S') (z : ∀ v H1, Chg [p, n, s, q] H H1 → Im K H1 v d → WAt K H1 p n s q mn M G S' → Q v H1) : tCall (SpW K TL R) [] E (tCons ta tr) σ H Q :=
  h0 H (Ext.refl H) _ fun H2 e2 => h H2 e2 _ fun vs H3 e3 hs => ⟨p, n, s, q, vs, ds, mn, M, G, S, S', d, by rw [List.append_nil], hs, ht.to ((hk.trans e2.kp).trans e3.kp), hW.to (e2.trans e3), hr, fun v H4 c4 hv hw => z v H4 ((e2.trans e3).chg.trans c4) hv hw⟩
theorem r_lst {t : TA} (h : t σ H fun xs H1 => xs.length ≤ sizeLine ∧ ∀ p, H1 p = none → Q (.ref p) (upd H1 p (.lst xs))) : tLst t σ H Q := h
theorem r_par {i j : Nat} {ta : TA} {tz : TS} (h : ta σ H fun vs H1 => ∃ v w, vs = [v, w] ∧ tz D ((σ.set i (some v)).set j (some w)) H1) : tSeq (tPar i j ta) tz D σ H := h
theorem st_ifNN (h : tm σ H fun v H1 => ∃ k, V.bl (!decide (v = .non)) = .bl k ∧ (if k = true then tu D σ H1 else tw D σ H1)) : tIfS (tB (tNotN tm)) tu tw D σ H := h
end
section
variable {P : Program} {w : World} {K : PySem.W.Frag} {mg : Str → Option Value} {base : Heap}
def SpLh (K : PySem.W.Frag) (TL : List Addr) : Sp := fun vs H Q _ => ∃ (ds : List Dt) (M : Mach) (G : Tbl) (m : Nat) (mn : Mn) (most : Nat), ImAll K H vs ds ∧ Tabs TL H ∧ ds = [eM M, eT G, .str mn.s, eN most] ∧ House M G m ∧ most ≤ 6 ∧ ∀ v H' d, Ext H H' → Im K H' v d → LhOk mn M G most d → Q v H'
theorem sc_least_harm : FnScope ["machine", "table", "manner", "most", "first", "stands", "seen", "_", "world", "story", "word"] ["machine", "table", "manner", "most"] (defScope s_least_harm) := ⟨rfl, rfl, rfl, by decide +kernel, rfl, by decide +kernel, by decide +kernel⟩
theorem ok_least_harm (T : Txt w K mg base) : Ok P w K mg base 13 ("least_harm", none) ["machine", "table", "manner", "most"] (SpLh K (TL K)) := by
  obtain ⟨⟨fd_w_init, F_w_init, ds_w_init, v_w_init, b_w_init⟩, k_w_init⟩ := ok_w_init (P := P) T
  obtain ⟨⟨fd_harm_in, F_harm_in, b_harm_in⟩, k_harm_in⟩ := ok_harm_in (P := P) T
  obtain ⟨⟨fd_gone_on, F_gone_on, b_gone_on⟩, k_gone_on⟩ := ok_gone_on (P := P) T
  refine ok_of (k := 12) T.f_least_harm sc_least_harm (fun vs H Q E h => ?_) (fun _ _ _ _ _ _ us hl => match us, hl with | [_, _, _, _], _ => rfl) (fun cdv A outer s H vs Q E hr h => ?_)
  · obtain ⟨ds, M, G, m, mn, most, hi, _, rfl, _⟩ := h
    exact hi.length
  · obtain ⟨ds, M, G, m, mn, most, hi, hT, rfl, hH, hmost, hQ⟩ := h
    cases hi with | cons h1 hi => cases hi with | cons h2 hi => cases hi with | cons h3 hi => cases hi with | cons h4 hi =>
    cases hi
    rename_i vM vG vmn vmost
    refine ⟨_, (pss_cons (ps_set (i := 4) sc_least_harm.nd rfl (Or.inl rfl) (pe_make T.mk_World F_w_init (hr.mono (by decide)) (by rfl) T.g_World b_w_init v_w_init pass0 (pa_cons (pv 0) (pa_cons (pv 1) (pa_cons (pv 2) pa_nil)))))
      (pss_cons (ps_par (i := 5) (j := 6) (by rfl) sc_least_harm.nd rfl rfl (by decide) rfl rfl (pa_cons (pe_lst (pa_cons (pe_tup (pa_cons (pv 4) (pa_cons (pe_tup pa_nil) pa_nil))) pa_nil)) (pa_cons pe_dnewS pa_nil)) (by rfl))
      (pss_cons (ps_for PassesOwn.never rfl (pi_range1 (by rfl) T.g_range (pa_cons (pe_op (r := rAddX K) op_addX (pv 3) pe_int) pa_nil)) (pg_name (i := 7) sc_least_harm.nd rfl (Or.inl rfl))
        (pss_cons (ps_for PassesOwn.never rfl (pi_list (pv 5)) (pg_tup rfl (pgs_cons (pg_name (i := 8) sc_least_harm.nd rfl (Or.inl rfl)) (pgs_cons (pg_name (i := 9) sc_least_harm.nd rfl (Or.inl rfl)) pgs_nil)))
          (pss_cons (ps_set (i := 10) sc_least_harm.nd rfl (Or.inl rfl) (pe_call F_harm_in (hr.mono (by decide)) (by rfl) T.g_harm_in k_harm_in b_harm_in .nil pass0 (pa_cons (pv 8) pa_nil)))
          (pss_one (ps_if (pt_cmp (pc_notN (pv 10))) (pss_one (ps_ret (pe_tup (pa_cons (pv 10) (pa_cons (pv 9) pa_nil))))) pss_nil))))
        (pss_one (ps_set (i := 5) sc_least_harm.nd rfl (Or.inl rfl) (pe_call F_gone_on (hr.mono (by decide)) (by rfl) T.g_gone_on k_gone_on b_gone_on .nil pass0 (pa_cons (pv 5) (pa_cons (pv 6) pa_nil)))))))
      (pss_one (ps_ret pe_non))))), ?_⟩
    try dsimp only [cxOf, Cx.nox, Cx.wish]
    refine rd_start [some vM, some vG, some vmn, some vmost, none, none, none, none, none, none, none] ?_
    refine q_makeW (ea_cons (ed_v h1) (ea_cons (ed_v h2) (ea_cons (ed_v h3) ea_nil))) fun p n s q H1 e1 np nn ns nq hW1 => ?_
    refine rd_start' [some vM, some vG, some vmn, some vmost, some (.ref p), none, none, none, none, none, none] ?_
    -- the first stands and the pictures
    refine r_par (r_cons (r_lst (r_cons (r_tupE (r_cons (ev_var rfl H1 (Ext.refl _) _ fun H2 e2 => r_cons ((ed_tup (K := K) ea_nil (by simp)) H2 (Ext.refl _) _ fun vst H3 e3 hvst => r_nil ⟨by show 2 ≤ sizeLine; decide, fun ta hta => r_nil ⟨by show 1 ≤ sizeLine; decide, fun L hL => r_cons (fun D H5 nD e5 hsn => r_nil ⟨_, _, rfl, ?_⟩)⟩⟩)))))))
    have e4 : Ext H3 (upd H3 ta (.tup [.ref p, vst])) := Ext.new hta
    have e4b : Ext (upd H3 ta (.tup [.ref p, vst])) (upd (upd H3 ta (.tup [.ref p, vst])) L (.lst [.ref ta])) := Ext.new hL
    have ht5 : SqT K H5 ta [.ref p, vst] := (e4b.trans e5).kp.sqT (.inl (.inl upd_same))
    have hL5 : H5 L = some (.lst [.ref ta]) := e5.get upd_same
    have e15 : Ext H1 H5 := e2.trans (e3.trans (e4.trans (e4b.trans e5)))
    have nD0 : H D = none := (e1.trans (e2.trans (e3.trans (e4.trans e4b)))).free nD
    have hW5 := hW1.to e15
    have hvst5 : Im K H5 vst (.tup (([] : List Stp).map eStp)) := hvst.to (e4.trans (e4b.trans e5)).kp
    have liv := (hW1.to (e2.trans (e3.trans (e4.trans e4b)))).live nD
    have hfirst : StB K [D] mn M G H5 (.ref ta) (WS.start, []) := ⟨ta, p, n, s, q, vst, rfl, ht5, hW5, hvst5, by simp [liv.1], by simp [liv.2.1], by simp [liv.2.2.1], by simp [liv.2.2.2]⟩
    refine rd_start' [some vM, some vG, some vmn, some vmost, some (.ref p), some (.ref L), some (.ref D), none, none, none, none] ?_
    refine q_seq (st_forR1 (ed_op (ed_v h4) ed_int rd_addI) (by omega) (by omega) (fun j σ' H' => ∃ (L : Addr) (xs : List V) (es : List (WS × List Stp)) (qs : List Dt) (a b c d : Option V), σ' = [some vM, some vG, some vmn, some vmost, some (.ref p), some (.ref L), some (.ref D), a, b, c, d] ∧ Ext H H' ∧ H' L = some (.lst xs) ∧
      Paired (StB K [D] mn M G H') xs es ∧ SeenAt P w K H' D qs ∧ SInv mn M G j es qs ∧ es.length ≤ 7 ^ j ∧ 6 * qs.length + 7 ≤ 7 ^ (j + 1)) (fun H6 e6 => ⟨L, _, [(WS.start, [])], [], none, none, none, none, rfl, e1.trans (e15.trans e6), e6.get hL5, .cons (hfirst.to e6) .nil, hsn.to e6, sinv_start, by simp, by simp⟩) ?_ ?_)
    · rintro j σ' H6 hj ⟨L, xs, es, qs, a, b, c, d, rfl, e6, hL6, hps, hsn6, hinv, hl1, hl2⟩
      have hj6 : j ≤ 6 := by omega
      have hpow : 7 ^ j ≤ 117649 := Nat.le_trans (Nat.pow_le_pow_right (by decide) hj6) (by decide)
      have hpow2 : 7 ^ (j + 1) = 7 * 7 ^ j := by rw [Nat.pow_succ, Nat.mul_comm]
      have hpl := paired_len hps
      have hent : ∀ e ∈ es, GoodW M G j e.1 ∧ LateW mn e.1 ∧ e.2.length ≤ 100 := fun e he => by
        have z := hinv.ent e he
        have z2 := rch_good hH z.rch.1
        exact ⟨z2.1, z2.2, by have := z.len; omega⟩
      refine g_nm [some vM, some vG, some vmn, some vmost, some (.ref p), some (.ref L), some (.ref D), some (.int (j : Nat)), b, c, d] ?_
      refine q_seq (st_forV ev_v hL6 (fun i σ' H' => ∃ (b c d : Option V), σ' = [some vM, some vG, some vmn, some vmost, some (.ref p), some (.ref L), some (.ref D), some (.int (j : Nat)), b, c, d] ∧ Ext H6 H' ∧ ∀ i' e, i' < i → es[i']? = some e → harmW mn M G e.1 = none) (fun H7 e7 => ⟨b, c, d, rfl, e7, fun i' e h => absurd h (Nat.not_lt_zero _)⟩) ?_ ?_ ?_)
      · rintro i σ' H' ⟨b, c, d, rfl, e7, _⟩
        exact e7.get hL6
      · rintro i v σ' H7 hv ⟨b, c, d, rfl, e7, hno⟩
        obtain ⟨en, hen, hst⟩ := paired_get hps hv
        have henm := List.mem_of_getElem? hen
        obtain ⟨hg, hlate, hlen⟩ := hent en henm
        obtain ⟨at_, p', n', s', q', vst', rfl, hsq, hWn, hvst', _⟩ := hst
        refine g_pairV (e7.kp.sqT hsq) ?_
        refine rd_start' [some vM, some vG, some vmn, some vmost, some (.ref p), some (.ref L), some (.ref D), some (.int (j : Nat)), some (.ref p'), some vst', d] ?_
        refine q_set (ed_wCallFx ev_v (hWn.to e7) hT (by walk_at "kp") ⟨m, j, rfl, hH, hg, by omega, rfl⟩) fun y H8 e8 hy => ?_
        refine rd_start' [some vM, some vG, some vmn, some vmost, some (.ref p), some (.ref L), some (.ref D), some (.int (j : Nat)), some (.ref p'), some vst', some y] ?_
        cases hh : harmW mn M G en.1 with
        | none =>
          rw [hh] at hy
          refine st_skip (et_B (ed_notN (ed_v hy) (by simp [eW]))) fun H9 e9 => ⟨_, _, _, rfl, e7.trans (e8.trans e9), fun i' e hi' he => ?_⟩
          rcases Nat.lt_succ_iff_lt_or_eq.mp hi' with z | z
          · exact hno i' e z he
          · subst z
            rw [hen] at he
            cases he
            exact hh
        | some word =>
          rw [hh] at hy
          refine st_do (et_B (ed_notN (ed_v hy) (by simp [eW]))) fun H9 e9 => ?_
          have z := hinv.ent en henm
          refine st_ret (ed_tup (ea_cons (ed_v hy) (ea_cons (ed_v hvst') ea_nil)) (by simp)) fun v H10 e10 hv => hQ v H10 _ (e6.trans (e7.trans (e8.trans (e9.trans e10)))) hv (.inr ⟨word, en.2, rfl, ?_, z.path, ?_⟩)
          · rw [z.len]
            exact sinv_harm hinv (by omega) henm (by rw [hh]; simp)
          · rw [z.run]
            exact hh
      · rintro σ' H7 ⟨b, c, d, rfl, e7, hno⟩
        have hnone : ∀ e ∈ es, harmW mn M G e.1 = none := fun e he => by
          obtain ⟨i, hi, ei⟩ := List.mem_iff_getElem.mp he
          exact hno i e (by rw [hpl]; exact hi) (by rw [List.getElem?_eq_getElem hi, ei])
        refine ⟨.ref L, rfl, .ref D, rfl, L, D, xs, es, qs, mn, M, G, m, j, rfl, hT.to (e6.trans e7).kp, e7.get hL6, paired_imp (fun x y z => z.to e7) hps, hsn6.to e7, hH, hj6, hent, by omega, by omega, fun L' H8 xs' es' qs' c8 nL' hL' hps' hsn' hgone hq1 hq2 => ?_⟩
        refine g_nm [some vM, some vG, some vmn, some vmost, some (.ref p), some (.ref L'), some (.ref D), some (.int (j : Nat)), b, c, d] ?_
        refine ⟨L', xs', es', qs', _, _, _, _, rfl, ((e6.trans e7).chg.trans c8).new nD0, hL', hps', hsn', sinv_next hinv hgone hnone, ?_, ?_⟩
        · omega
        · have hpow3 : 7 ^ (j + 1 + 1) = 7 * 7 ^ (j + 1) := by rw [Nat.pow_succ, Nat.mul_comm]
          omega
    · rintro σ' H6 ⟨L, xs, es, qs, a, b, c, d, rfl, e6, hL6, hps, hsn6, hinv, hl1, hl2⟩
      have en : ((most : Int) + 1).toNat = most + 1 := by omega
      rw [en] at hinv
      dsimp only
      exact st_ret (K := K) ed_non fun v H7 e7 hv => hQ v H7 _ (e6.trans e7) hv (.inl ⟨rfl, sinv_end hinv⟩)
def SpHo (K : PySem.W.Frag) (TL : List Addr) : Sp := fun vs H Q _ => ∃ (ds : List Dt) (M : Mach) (G : Tbl) (m : Nat) (mn : Mn) (most : Nat), ImAll K H vs ds ∧ Tabs TL H ∧ ds = [eM M, eN m, eT G, .str mn.s, eN most] ∧ House M G m ∧ most ≤ 6 ∧ ∀ v H' d, Ext H H' → Im K H' v d → LhOk mn M G most d → Q v H'
theorem sc_harm_of : FnScope ["machine", "marks", "table", "manner", "most"] ["machine", "marks", "table", "manner", "most"] (defScope s_harm_of) := ⟨rfl, rfl, rfl, by decide +kernel, rfl, by decide +kernel, by decide +kernel⟩
theorem ok_harm_of (T : Txt w K mg base) : Ok P w K mg base 14 ("harm_of", none) ["machine", "marks", "table", "manner", "most"] (SpHo K (TL K)) := by
  obtain ⟨⟨fd_need_house, F_need_house, b_need_house⟩, k_need_house⟩ := ok_need_house (P := P) T
  obtain ⟨⟨fd_need_manner, F_need_manner, b_need_manner⟩, k_need_manner⟩ := ok_need_manner (P := P) T
  obtain ⟨⟨fd_need_number, F_need_number, b_need_number⟩, k_need_number⟩ := ok_need_number (P := P) T
  obtain ⟨⟨fd_least_harm, F_least_harm, b_least_harm⟩, k_least_harm⟩ := ok_least_harm (P := P) T
  refine ok_of (k := 13) T.f_harm_of sc_harm_of (fun vs H Q E h => ?_) (fun _ _ _ _ _ _ us hl => match us, hl with | [_, _, _, _, _], _ => rfl) (fun cdv A outer s H vs Q E hr h => ?_)
  · obtain ⟨ds, M, G, m, mn, most, hi, _, rfl, _⟩ := h
    exact hi.length
  · obtain ⟨ds, M, G, m, mn, most, hi, hT, rfl, hH, hmost, hQ⟩ := h
    cases hi with | cons h1 hi => cases hi with | cons h2 hi => cases hi with | cons h3 hi => cases hi with | cons h4 hi => cases hi with | cons h5 hi =>
    cases hi
    refine ⟨_, (pss_cons (ps_expr (pe_call F_need_house (hr.mono (by decide)) (by rfl) T.g_need_house k_need_house b_need_house .nil pass0 (pa_cons (pv 0) (pa_cons (pv 1) (pa_cons (pv 2) pa_nil)))))
      (pss_cons (ps_expr (pe_call F_need_manner (hr.mono (by decide)) (by rfl) T.g_need_manner k_need_manner b_need_manner .nil pass0 (pa_cons (pv 3) pa_nil)))
      (pss_cons (ps_expr (pe_call F_need_number (hr.mono (by decide)) (by rfl) T.g_need_number k_need_number b_need_number .nil pass0 (pa_cons (pv 4) (pa_cons pe_int (pa_cons (pe_gint (by rfl) T.g_MOST_HARM) pa_nil)))))
      (pss_one (ps_ret (pe_call F_least_harm (hr.mono (by decide)) (by rfl) T.g_least_harm k_least_harm b_least_harm .nil pass0 (pa_cons (pv 0) (pa_cons (pv 2) (pa_cons (pv 3) (pa_cons (pv 4) pa_nil)))))))))), ?_⟩
    try dsimp only [cxOf, Cx.nox, Cx.wish]
    refine q_drop (ed_call (ea_cons (ed_v h1) (ea_cons (ed_v h2) (ea_cons (ed_v h3) ea_nil))) hT (by walk_at "kp") ⟨M, G, m, rfl, hH, rfl⟩) fun H1 e1 => ?_
    refine q_drop (ed_call (ea_cons (ed_v h4) ea_nil) hT (by walk_at "kp") ⟨mn, rfl, rfl⟩) fun H2 e2 => ?_
    refine q_drop (ed_call (ea_cons (ed_v h5) (ea_cons ed_int (ea_cons ed_int ea_nil))) hT (by walk_at "kp") ⟨_, _, _, rfl, by omega, by omega, rfl⟩) fun H3 e3 => ?_
    have e13 := e1.trans (e2.trans e3)
    refine r_ret ((ea_cons (ed_v h1) (ea_cons (ed_v h3) (ea_cons (ed_v h4) (ea_cons (ed_v h5) ea_nil)))) H3 (Ext.refl _) _ fun vs H4 e4 hs => ⟨_, M, G, m, mn, most, by rw [List.append_nil]; exact hs, hT.to (e13.trans e4).kp, rfl, hH, hmost, fun v H5 d e5 hv hd => hQ v H5 d (e13.trans (e4.trans e5)) hv hd⟩)
end
end K29
set_option Elab.async false
set_option linter.all false
set_option maxRecDepth 100000
set_option maxHeartbeats 4000000
/-! the program: whether a value is what may come -/
namespace K29
open PySem PySem.Spec PyProof.Rows L2
local macro_rules | `(tactic| walk_at "kp") => `(tactic| first | exact Kp.refl _ | assumption | exact Chg.kp (by assumption) | (refine Kp.trans ?_ (Chg.kp (by assumption)); walk_at "kp"))
local macro_rules | `(tactic| walk_at "ext") => `(tactic| first | exact Ext.refl _ | assumption | (refine Ext.trans ?_ (by assumption); walk_at "ext"))

theorem q_callR {sp : Sp} {E : XK} {tr : TA} {i : Nat} {tz : TS} {D : Ends} {σ : L2.St} {H : Hp} (h : tr σ H fun vs H1 => sp (vs ++ []) H1 (fun v H2 => gName i v σ H2 (tz D)) E) : tSeq (tAsg (tCall sp [] E tr) (gName i)) tz D σ H := h
section
variable {P : Program} {w : World} {K : PySem.W.Frag} {mg : Str → Option Value} {base : Heap}
def R_shows_harm (ds : List Dt) (d : Dt) : Prop := ∃ (M : Mach) (G : Tbl) (m : Nat) (mn : Mn) (most : Nat) (d0 : Dt), ds = [eM M, eN m, eT G, .str mn.s, eN most, d0] ∧ House M G m ∧ most ≤ 6 ∧ LhOk mn M G most d0 ∧ d = .bl true
theorem sc_shows_harm : FnScope ["machine", "marks", "table", "manner", "most", "value", "due", "world", "word"] ["machine", "marks", "table", "manner", "most", "value"] (defScope s_shows_harm) := ⟨rfl, rfl, rfl, by decide +kernel, rfl, by decide +kernel, by decide +kernel⟩
theorem ok_shows_harm (T : Txt w K mg base) : Ok P w K mg base 15 ("shows_harm", none) ["machine", "marks", "table", "manner", "most", "value"] (SpF K (TL K) R_shows_harm) := by
  obtain ⟨⟨fd_need_house, F_need_house, b_need_house⟩, k_need_house⟩ := ok_need_house (P := P) T
  obtain ⟨⟨fd_need_manner, F_need_manner, b_need_manner⟩, k_need_manner⟩ := ok_need_manner (P := P) T
  obtain ⟨⟨fd_need_number, F_need_number, b_need_number⟩, k_need_number⟩ := ok_need_number (P := P) T
  obtain ⟨⟨fd_least_harm, F_least_harm, b_least_harm⟩, k_least_harm⟩ := ok_least_harm (P := P) T
  obtain ⟨⟨fd_w_init, F_w_init, ds_w_init, v_w_init, b_w_init⟩, k_w_init⟩ := ok_w_init (P := P) T
  obtain ⟨⟨fd_wrong_step, F_wrong_step, b_wrong_step⟩, k_wrong_step⟩ := ok_wrong_step (P := P) T
  obtain ⟨⟨fd_harm_in, F_harm_in, b_harm_in⟩, k_harm_in⟩ := ok_harm_in (P := P) T
  refine ok_of (k := 14) T.f_shows_harm sc_shows_harm (fun vs H Q E h => ?_) (fun _ _ _ _ _ _ us hl => match us, hl with | [_, _, _, _, _, _], _ => rfl) (fun cdv A outer s H vs Q E hr h => ?_)
  · obtain ⟨ds, d, hi, _, ⟨M, G, m, mn, most, d0, rfl, _⟩, _⟩ := h
    exact hi.length
  · obtain ⟨ds, d, hi, hT, ⟨M, G, m, mn, most, d0, rfl, hH, hmost, hd0, rfl⟩, hQ⟩ := h
    cases hi with | cons h1 hi => cases hi with | cons h2 hi => cases hi with | cons h3 hi => cases hi with | cons h4 hi => cases hi with | cons h5 hi => cases hi with | cons h6 hi =>
    cases hi
    rename_i vM vm vG vmn vmost vv
    refine ⟨_, (pss_cons (ps_expr (pe_call F_need_house (hr.mono (by decide)) (by rfl) T.g_need_house k_need_house b_need_house .nil pass0 (pa_cons (pv 0) (pa_cons (pv 1) (pa_cons (pv 2) pa_nil)))))
      (pss_cons (ps_expr (pe_call F_need_manner (hr.mono (by decide)) (by rfl) T.g_need_manner k_need_manner b_need_manner .nil pass0 (pa_cons (pv 3) pa_nil)))
      (pss_cons (ps_expr (pe_call F_need_number (hr.mono (by decide)) (by rfl) T.g_need_number k_need_number b_need_number .nil pass0 (pa_cons (pv 4) (pa_cons pe_int (pa_cons (pe_gint (by rfl) T.g_MOST_HARM) pa_nil)))))
      (pss_cons (ps_set (i := 6) sc_shows_harm.nd rfl (Or.inl rfl) (pe_call F_least_harm (hr.mono (by decide)) (by rfl) T.g_least_harm k_least_harm b_least_harm .nil pass0 (pa_cons (pv 0) (pa_cons (pv 2) (pa_cons (pv 3) (pa_cons (pv 4) pa_nil))))))
      (pss_cons (ps_if (PW.pt (pw_or (pt_cmp (pc_isN (pv 6))) (pw_or1 (pt_cmp (pc_isN (pv 5)))))) (pss_one (ps_ret (pe_and (pe_cmp (pc_isN (pv 6)) rfl) (pe_one (pe_cmp (pc_isN (pv 5)) rfl))))) pss_nil)
      (pss_cons (ps_if (PW.pt (pw_or (pt_not (pt_val (pe_callB (id := "isinstance") (r := rIsiX K) call_isiX (by rfl) T.g_isinstance (by decide +kernel) (pa_cons (pv 5) (pa_cons (pe_gty (T := "tuple") (by rfl) T.g_tuple) pa_nil))))) (pw_or (pt_cmpR (r := rNeD K) (op_neD hr.units) (pe_callB (id := "len") (r := rLenX K) call_lenX (by rfl) T.g_len (by decide +kernel) (pa_cons (pv 5) pa_nil)) pe_int (nomark _)) (pw_or1 (pt_not (pt_val (pe_callB (id := "isinstance") (r := rIsiX K) call_isiX (by rfl) T.g_isinstance (by decide +kernel) (pa_cons (pe_ix (r := rIx K) ix_seq (pv 5) pe_int (fun _ _ => rfl)) (pa_cons (pe_gty (T := "tuple") (by rfl) T.g_tuple) pa_nil))))))))) (pss_one (ps_ret pe_bl)) pss_nil)
      (pss_cons (ps_if (pt_cmpR (r := rNeD K) (op_neD hr.units) (pe_callB (id := "len") (r := rLenX K) call_lenX (by rfl) T.g_len (by decide +kernel) (pa_cons (pe_ix (r := rIx K) ix_seq (pv 5) pe_int (fun _ _ => rfl)) pa_nil)) (pe_callB (id := "len") (r := rLenX K) call_lenX (by rfl) T.g_len (by decide +kernel) (pa_cons (pe_ix (r := rIx K) ix_seq (pv 6) pe_int (fun _ _ => rfl)) pa_nil)) (nomark _)) (pss_one (ps_ret pe_bl)) pss_nil)
      (pss_cons (ps_set (i := 7) sc_shows_harm.nd rfl (Or.inl rfl) (pe_make T.mk_World F_w_init (hr.mono (by decide)) (by rfl) T.g_World b_w_init v_w_init pass0 (pa_cons (pv 0) (pa_cons (pv 2) (pa_cons (pv 3) pa_nil)))))
      (pss_cons (ps_if (pt_cmp (pc_notN (pe_call F_wrong_step (hr.mono (by decide)) (by rfl) T.g_wrong_step k_wrong_step b_wrong_step .nil pass0 (pa_cons (pv 7) (pa_cons (pe_ix (r := rIx K) ix_seq (pv 5) pe_int (fun _ _ => rfl)) pa_nil))))) (pss_one (ps_ret pe_bl)) pss_nil)
      (pss_cons (ps_set (i := 8) sc_shows_harm.nd rfl (Or.inl rfl) (pe_call F_harm_in (hr.mono (by decide)) (by rfl) T.g_harm_in k_harm_in b_harm_in .nil pass0 (pa_cons (pv 7) pa_nil)))
      (pss_one (ps_ret (pe_and (pe_cmp (pc_notN (pv 8)) rfl) (pe_one (pe_cmpR (r := rEqD K) (op_eqD hr.units) (pv 8) (pe_ix (r := rIx K) ix_seq (pv 5) pe_int (fun _ _ => rfl)) (nomark _)))))))))))))))), ?_⟩
    try dsimp only [cxOf, Cx.nox, Cx.wish]
    refine rd_start [some vM, some vm, some vG, some vmn, some vmost, some vv, none, none, none] ?_
    refine q_drop (ed_call (ea_cons (ed_v h1) (ea_cons (ed_v h2) (ea_cons (ed_v h3) ea_nil))) hT (by walk_at "kp") ⟨M, G, m, rfl, hH, rfl⟩) fun H1 e1 => ?_
    refine q_drop (ed_call (ea_cons (ed_v h4) ea_nil) hT (by walk_at "kp") ⟨mn, rfl, rfl⟩) fun H2 e2 => ?_
    refine q_drop (ed_call (ea_cons (ed_v h5) (ea_cons ed_int (ea_cons ed_int ea_nil))) hT (by walk_at "kp") ⟨_, _, _, rfl, by omega, by omega, rfl⟩) fun H3 e3 => ?_
    have e13 := e1.trans (e2.trans e3)
    refine q_callR ((ea_cons (ed_v h1) (ea_cons (ed_v h3) (ea_cons (ed_v h4) (ea_cons (ed_v h5) ea_nil)))) H3 (Ext.refl _) _ fun vs H4 e4 hs => ⟨_, M, G, m, mn, most, by rw [List.append_nil]; exact hs, hT.to (e13.trans e4).kp, rfl, hH, hmost, fun vd H5 dd e5 hvd hdd => ?_⟩)
    refine g_nm [some vM, some vm, some vG, some vmn, some vmost, some vv, some vd, none, none] ?_
    have e15 := e13.trans (e4.trans e5)
    rcases hd0 with ⟨rfl, hl0⟩ | ⟨word, sts, rfl, hl0, hpath, hharm⟩
    · have hdn : dd = .non := by
        rcases hdd with ⟨z, _⟩ | ⟨_, _, _, z, _⟩
        · exact z
        · cases leastH_one hl0 z
      subst hdn
      refine q_if (k := true) (EdT.is (et_or (et_B (ed_isN (k := true) (ed_v hvd) (by simp))) fun z => et_B (ed_isN (k := true) (ed_v h6) (by simp))) (by rfl)) (fun _ H6 e6 => ?_) fun z => by cases z
      exact st_ret (K := K) (Ed.is (ed_andV (ed_isN (k := true) (ed_v hvd) (by simp)) fun _ => ed_isN (k := true) (ed_v h6) (by simp)) (by rfl)) fun v H7 e7 hv => hQ v H7 (e15.trans (e6.trans e7)) hv
    · obtain ⟨word', sts', rfl, hl1, _, _⟩ : ∃ (word' : Str) (sts' : List Stp), dd = .tup [.str word', .tup (sts'.map eStp)] ∧ LeastH mn M G most (some sts'.length) ∧ PathP mn M G WS.start sts' ∧ harmW mn M G (runW mn M G WS.start sts') = some word' := by
        rcases hdd with ⟨_, z⟩ | z
        · cases leastH_one hl0 z
        · exact z
      have hlen : sts.length = sts'.length := Option.some.inj (leastH_one hl0 hl1)
      have hle : sts.length ≤ 6 := Nat.le_trans hl0.1 hmost
      refine q_if (k := false) (EdT.is (et_or (et_B (ed_isN (k := false) (ed_v hvd) (by simp))) fun z => et_B (ed_isN (k := false) (ed_v h6) (by simp))) (by rfl)) (fun z => by cases z) fun _ H6 e6 => ?_
      refine q_skip (EdT.is (et_or (et_not (et_B (ed_isi (ed_v h6) (by rfl)))) fun _ => et_or (et_test (ed_op (ed_lenT (ed_v h6)) ed_int rd_neI)) fun _ => et_not (et_B (ed_isi (ed_op (ed_v h6) ed_int (rd_ix (by rfl))) (by rfl)))) (by rfl)) fun H7 e7 => ?_
      refine q_skip (EdT.is (et_test (ed_op (ed_lenT (ed_op (ed_v h6) ed_int (rd_ix (by rfl)))) (ed_lenT (ed_op (ed_v hvd) ed_int (rd_ix (by rfl)))) rd_neI)) ?_) fun H8 e8 => ?_
      · rw [List.length_map, List.length_map, hlen]
        simp
      refine q_makeW (ea_cons (ed_v h1) (ea_cons (ed_v h3) (ea_cons (ed_v h4) ea_nil))) fun p n s q H9 e9 np nn ns nq hW9 => ?_
      refine rd_start' [some vM, some vm, some vG, some vmn, some vmost, some vv, some vd, some (.ref p), none] ?_
      have e19 := e15.trans (e6.trans (e7.trans (e8.trans e9)))
      have hpW := pathP_W hpath
      have hg := run_good (mn := mn) hH (n := 0) good_start trivial hpW
      refine st_ifNN (st_wCallx ev_v hW9 (ea_cons (ed_op (ed_v h6) ed_int (rd_ix (by rfl))) ea_nil) hT (by walk_at "kp") ⟨m, 0, sts, rfl, hH, good_start, trivial, by omega, hpW, rfl, rfl⟩ fun v H10 c10 hv10 hW10 => ⟨false, ?_, ?_⟩)
      · cases hv10
        rfl
      · rw [if_neg Bool.false_ne_true]
        have e810 : Ext H8 H10 := (e9.chg.trans c10).ext fun b hb => by
          simp only [List.mem_cons, List.not_mem_nil, or_false] at hb
          rcases hb with rfl | rfl | rfl | rfl <;> assumption
        have e110 := e15.trans (e6.trans (e7.trans (e8.trans e810)))
        dsimp only [tNext]
        refine q_set (ed_wCallFx ev_v hW10 hT e110.kp ⟨m, 0 + sts.length, rfl, hH, hg.1, by omega, rfl⟩) fun y H11 e11 hy => ?_
        refine rd_start' [some vM, some vm, some vG, some vmn, some vmost, some vv, some vd, some (.ref p), some y] ?_
        rw [hharm] at hy
        have hwo := harm_ok hharm
        have h6' := h6.to (e110.trans e11).kp
        exact st_ret (K := K) (Ed.is (ed_andV (ed_notN (k := true) (ed_v hy) (by simp [eW])) fun _ => ed_op (ed_v hy) (ed_op (ed_v h6') ed_int (rd_ix (by rfl))) (rd_eqS hwo hwo)) (by simp)) fun v H12 e12 hv => hQ v H12 (e110.trans (e11.trans e12)) hv
end
end K29
set_option Elab.async false
set_option linter.all false
set_option maxRecDepth 100000
set_option maxHeartbeats 4000000
/-! a paper that holds: no two lives part; sealed: harm only if two lives part. Plain Lean -/
namespace K29
open PySem PySem.Spec PyProof.Rows L2
structure Pl where
  s : Nat
  o : Option Nat
  d : Nat
deriving DecidableEq
def rowA (G : Tbl) (s o : Nat) : List Nat := ((G[s]?).bind fun rs => rs[o]?).getD []
def optA (M : Mach) (s o : Nat) : Nat × Wd := (opt M s o).getD (0, none)
def optsA (M : Mach) (s : Nat) : Nat := ((M[s]?).map (·.length)).getD 0
/-- a mark on -/
def goneA (M : Mach) (G : Tbl) (s o d : Nat) : Pl × Wd := if d + 1 < (rowA G s o).length then (⟨s, some o, d + 1⟩, none) else (⟨(optA M s o).1, none, 0⟩, (optA M s o).2)
/-- no word can be said from there -/
def Silent (M : Mach) (dom : Nat → Prop) (p : Pl) : Prop := match p.o with
  | none => ¬ dom p.s
  | some o => (optA M p.s o).2 = none ∧ ¬ dom (optA M p.s o).1
structure Holds (M : Mach) (G : Tbl) (dom : Nat → Prop) (F : Pl × Pl → Prop) : Prop where
  start : F (⟨0, none, 0⟩, ⟨0, none, 0⟩)
  one : ∀ a b, F (a, b) → a.o = none → ∀ o, o < optsA M a.s → F (⟨a.s, some o, 0⟩, b)
  other : ∀ a b, F (a, b) → b.o = none → ∀ o, o < optsA M b.s → F (a, ⟨b.s, some o, 0⟩)
  both : ∀ a b oa ob, F (a, b) → a.o = some oa → b.o = some ob → (rowA G a.s oa).getD a.d 0 = (rowA G b.s ob).getD b.d 0 →
    ((goneA M G a.s oa a.d).2 = (goneA M G b.s ob b.d).2 ∧ F ((goneA M G a.s oa a.d).1, (goneA M G b.s ob b.d).1)) ∨ ((goneA M G a.s oa a.d).2 = none ∧ Silent M dom (goneA M G a.s oa a.d).1) ∨ ((goneA M G b.s ob b.d).2 = none ∧ Silent M dom (goneA M G b.s ob b.d).1)
  near : ∀ s o p, opt M s o = some p → (p.2 ≠ none ∨ dom p.1) → dom s
section
variable {M : Mach} {G : Tbl} {m : Nat} {dom : Nat → Prop} {F : Pl × Pl → Prop}
/-- what is told from a state on, the marks before counted -/
def tl2 (M : Mach) (G : Tbl) : Nat → Nat → Life → List (Nat × Str)
  | _, _, [] => []
  | s, c, o :: r => (match (optA M s o).2 with | none => [] | some w => [(c + (rowA G s o).length, w)]) ++ tl2 M G (optA M s o).1 (c + (rowA G s o).length) r
def mk2 (M : Mach) (G : Tbl) : Nat → Life → List Nat
  | _, [] => []
  | s, o :: r => rowA G s o ++ mk2 M G (optA M s o).1 r
/-- where a walker is, and what it has before it: the options behind -/
def toldP (M : Mach) (G : Tbl) (c : Nat) (p : Pl) (r : Life) : List (Nat × Str) := match p.o with
  | none => tl2 M G p.s c r
  | some o => (match (optA M p.s o).2 with | none => [] | some w => [(c + ((rowA G p.s o).length - p.d), w)]) ++ tl2 M G (optA M p.s o).1 (c + ((rowA G p.s o).length - p.d)) r
def marksP (M : Mach) (G : Tbl) (p : Pl) (r : Life) : List Nat := match p.o with
  | none => mk2 M G p.s r
  | some o => (rowA G p.s o).drop p.d ++ mk2 M G (optA M p.s o).1 r
/-- a walker on its way through options that are there -/
def OkP (M : Mach) (G : Tbl) (p : Pl) (r : Life) : Prop := match p.o with
  | none => go M p.s r ≠ none
  | some o => opt M p.s o ≠ none ∧ p.d < (rowA G p.s o).length ∧ go M (optA M p.s o).1 r ≠ none
theorem go_cons {s o : Nat} {r : Life} (h : go M s (o :: r) ≠ none) : opt M s o ≠ none ∧ go M (optA M s o).1 r ≠ none := by
  cases e : opt M s o with
  | none =>
    refine absurd ?_ h
    show ((opt M s o).bind fun p => go M p.1 r) = none
    rw [e]
    rfl
  | some p =>
    refine ⟨by simp, ?_⟩
    have e2 : optA M s o = p := by unfold optA; rw [e]; rfl
    rw [e2]
    intro z
    apply h
    show ((opt M s o).bind fun p => go M p.1 r) = none
    rw [e]
    exact z
theorem opt_lt {s o : Nat} (h : opt M s o ≠ none) : o < optsA M s := by
  unfold opt at h
  unfold optsA
  cases e : M[s]? with
  | none => rw [e] at h; exact absurd rfl h
  | some st =>
    rw [e] at h
    simp only [Option.bind_some] at h
    simp only [Option.map_some, Option.getD_some]
    exact Nat.lt_of_not_le fun z => h (List.getElem?_eq_none z)
theorem row_pos (hH : House M G m) {s o : Nat} (h : opt M s o ≠ none) : 1 ≤ (rowA G s o).length := by
  cases e : opt M s o with
  | none => exact absurd e h
  | some p =>
    obtain ⟨rs, r, h1, h2, h3, _⟩ := hH.rowAt e
    have e2 : rowA G s o = r := by
      unfold rowA
      rw [h1, Option.bind_some, h2]
      rfl
    rw [e2]
    exact h3
/-- from a state near no word nothing is told -/
theorem quiet (hn : ∀ s o p, opt M s o = some p → (p.2 ≠ none ∨ dom p.1) → dom s) : ∀ {r : Life} {s c : Nat}, ¬ dom s → go M s r ≠ none → tl2 M G s c r = []
  | [], _, _, _, _ => rfl
  | o :: r, s, c, hs, hg => by
    obtain ⟨h1, h2⟩ := go_cons hg
    cases e : opt M s o with
    | none => exact absurd e h1
    | some p =>
      have e2 : optA M s o = p := by unfold optA; rw [e]; rfl
      have w1 : p.2 = none := Classical.byContradiction fun z => hs (hn s o p e (.inl z))
      have w2 : ¬ dom p.1 := fun z => hs (hn s o p e (.inr z))
      unfold tl2
      rw [e2] at h2 ⊢
      rw [w1]
      exact quiet hn w2 h2
theorem quietP (hn : ∀ s o p, opt M s o = some p → (p.2 ≠ none ∨ dom p.1) → dom s) {p : Pl} {r : Life} {c : Nat} (hs : Silent M dom p) (hg : OkP M G p r) : toldP M G c p r = [] := by
  obtain ⟨s, o, d⟩ := p
  cases o with
  | none => exact quiet hn hs hg
  | some o =>
    obtain ⟨h1, h2⟩ : (optA M s o).2 = none ∧ ¬ dom (optA M s o).1 := hs
    obtain ⟨h3, h4, h5⟩ : opt M s o ≠ none ∧ d < (rowA G s o).length ∧ go M (optA M s o).1 r ≠ none := hg
    unfold toldP
    dsimp only
    rw [h1]
    exact quiet hn h2 h5
/-- a mark on, all goes on -/
theorem step_told {s o d : Nat} {r : Life} {c : Nat} (h : OkP M G ⟨s, some o, d⟩ r) : toldP M G c ⟨s, some o, d⟩ r = (match (goneA M G s o d).2 with | none => [] | some w => [(c + 1, w)]) ++ toldP M G (c + 1) (goneA M G s o d).1 r := by
  obtain ⟨h3, h4, h5⟩ : opt M s o ≠ none ∧ d < (rowA G s o).length ∧ go M (optA M s o).1 r ≠ none := h
  unfold goneA
  by_cases z : d + 1 < (rowA G s o).length
  · rw [if_pos z]
    have e : c + ((rowA G s o).length - d) = c + 1 + ((rowA G s o).length - (d + 1)) := by omega
    unfold toldP
    dsimp only
    rw [e]
    rfl
  · rw [if_neg z]
    have e : c + ((rowA G s o).length - d) = c + 1 := by omega
    unfold toldP
    dsimp only
    rw [e]
theorem step_marks {s o d : Nat} {r : Life} (h : OkP M G ⟨s, some o, d⟩ r) : marksP M G ⟨s, some o, d⟩ r = (rowA G s o).getD d 0 :: marksP M G (goneA M G s o d).1 r := by
  obtain ⟨h3, h4, h5⟩ : opt M s o ≠ none ∧ d < (rowA G s o).length ∧ go M (optA M s o).1 r ≠ none := h
  have e : (rowA G s o).drop d = (rowA G s o).getD d 0 :: (rowA G s o).drop (d + 1) := by
    rw [List.drop_eq_getElem_cons h4, List.getD_eq_getElem?_getD, List.getElem?_eq_getElem h4]
    rfl
  unfold goneA
  by_cases z : d + 1 < (rowA G s o).length
  · rw [if_pos z]
    unfold marksP
    dsimp only
    rw [e]
    rfl
  · rw [if_neg z]
    unfold marksP
    dsimp only
    rw [e, List.drop_eq_nil_of_le (by omega)]
    rfl
theorem step_ok {s o d : Nat} {r : Life} (h : OkP M G ⟨s, some o, d⟩ r) : OkP M G (goneA M G s o d).1 r := by
  obtain ⟨h3, h4, h5⟩ : opt M s o ≠ none ∧ d < (rowA G s o).length ∧ go M (optA M s o).1 r ≠ none := h
  unfold goneA
  by_cases z : d + 1 < (rowA G s o).length
  · rw [if_pos z]
    exact ⟨h3, z, h5⟩
  · rw [if_neg z]
    exact h5
/-- one begins the other -/
def Alg {α : Type} (a b : List α) : Prop := (∃ c, b = a ++ c) ∨ ∃ c, a = b ++ c
theorem alg_nil {α : Type} {b : List α} : Alg [] b := .inl ⟨b, rfl⟩
theorem alg_nil' {α : Type} {b : List α} : Alg b [] := .inr ⟨b, rfl⟩
theorem Alg.pre {α : Type} {a b : List α} (x : List α) (h : Alg a b) : Alg (x ++ a) (x ++ b) := by
  rcases h with ⟨c, rfl⟩ | ⟨c, rfl⟩
  · exact .inl ⟨c, by rw [List.append_assoc]⟩
  · exact .inr ⟨c, by rw [List.append_assoc]⟩
theorem Alg.cons {α : Type} {a b : List α} {x y : α} (h : Alg (x :: a) (y :: b)) : x = y ∧ Alg a b := by
  rcases h with ⟨c, e⟩ | ⟨c, e⟩
  · injection e with e1 e2
    exact ⟨e1.symm, .inl ⟨c, e2⟩⟩
  · injection e with e1 e2
    exact ⟨e1, .inr ⟨c, e2⟩⟩
theorem take_row {s o : Nat} {r : Life} {c : Nat} : toldP M G c ⟨s, none, 0⟩ (o :: r) = toldP M G c ⟨s, some o, 0⟩ r ∧ marksP M G ⟨s, none, 0⟩ (o :: r) = marksP M G ⟨s, some o, 0⟩ r := by
  constructor
  · unfold toldP
    dsimp only
    rw [Nat.sub_zero]
    rfl
  · rfl
/-- along a paper that holds two walkers upon the same marks tell alike -/
theorem walk_alike (hH : House M G m) (hF : Holds M G dom F) : ∀ (n : Nat) (a b : Pl) (r q : Life) (c : Nat), r.length + q.length + (marksP M G a r).length + (marksP M G b q).length ≤ n → F (a, b) → OkP M G a r → OkP M G b q → Alg (marksP M G a r) (marksP M G b q) → Alg (toldP M G c a r) (toldP M G c b q) := by
  intro n
  induction n with
  | zero =>
    intro a b r q c hn hf ha hb hm
    obtain ⟨s, o, d⟩ := a
    cases o with
    | some o =>
      rw [step_marks ha, List.length_cons] at hn
      omega
    | none =>
      have : r = [] := List.length_eq_zero_iff.mp (by omega)
      subst this
      exact alg_nil
  | succ n ih =>
    intro a b r q c hn hf ha hb hm
    obtain ⟨s, o, d⟩ := a
    obtain ⟨s', o', d'⟩ := b
    cases o with
    | none =>
      cases r with
      | nil => exact alg_nil
      | cons o r =>
        have g := go_cons (show go M s (o :: r) ≠ none from ha)
        have e := take_row (M := M) (G := G) (s := s) (o := o) (r := r) (c := c)
        have t : toldP M G c ⟨s, none, d⟩ (o :: r) = toldP M G c ⟨s, some o, 0⟩ r := e.1
        have k : marksP M G ⟨s, none, d⟩ (o :: r) = marksP M G ⟨s, some o, 0⟩ r := e.2
        rw [t]
        rw [k] at hn hm
        rw [List.length_cons] at hn
        exact ih _ _ r q c (by omega) (hF.one _ _ hf rfl o (opt_lt g.1)) ⟨g.1, row_pos hH g.1, g.2⟩ hb hm
    | some o =>
      cases o' with
      | none =>
        cases q with
        | nil => exact alg_nil'
        | cons o' q =>
          have g := go_cons (show go M s' (o' :: q) ≠ none from hb)
          have e := take_row (M := M) (G := G) (s := s') (o := o') (r := q) (c := c)
          have t : toldP M G c ⟨s', none, d'⟩ (o' :: q) = toldP M G c ⟨s', some o', 0⟩ q := e.1
          have k : marksP M G ⟨s', none, d'⟩ (o' :: q) = marksP M G ⟨s', some o', 0⟩ q := e.2
          rw [t]
          rw [k] at hn hm
          rw [List.length_cons] at hn
          exact ih _ _ r q c (by omega) (hF.other _ _ hf rfl o' (opt_lt g.1)) ha ⟨g.1, row_pos hH g.1, g.2⟩ hm
      | some o' =>
        rw [step_marks ha, step_marks hb] at hm hn
        obtain ⟨hx, hm2⟩ := hm.cons
        rw [List.length_cons, List.length_cons] at hn
        have ga := step_ok ha
        have gb := step_ok hb
        rw [step_told ha, step_told hb]
        rcases hF.both _ _ o o' hf rfl rfl hx with ⟨e, f⟩ | ⟨e, f⟩ | ⟨e, f⟩
        · rw [e]
          exact (ih _ _ r q (c + 1) (show r.length + q.length + (marksP M G (goneA M G s o d).1 r).length + (marksP M G (goneA M G s' o' d').1 q).length ≤ n by omega) f ga gb hm2).pre _
        · rw [e, quietP hF.near f ga]
          exact alg_nil
        · rw [e, quietP hF.near f gb]
          exact alg_nil'
/-! ### lives as they are told -/
theorem mk2_snoc : ∀ {l : Life} {s t o : Nat}, go M s l = some t → mk2 M G s (l ++ [o]) = mk2 M G s l ++ rowA G t o
  | [], s, t, o, h => by
    cases h
    show rowA G s o ++ [] = [] ++ rowA G s o
    simp
  | a :: l, s, t, o, h => by
    obtain ⟨p, h1, h2⟩ := Option.bind_eq_some_iff.mp (show ((opt M s a).bind fun p => go M p.1 l) = some t from h)
    have e : optA M s a = p := by unfold optA; rw [h1]; rfl
    show rowA G s a ++ mk2 M G (optA M s a).1 (l ++ [o]) = (rowA G s a ++ mk2 M G (optA M s a).1 l) ++ rowA G t o
    rw [e, mk2_snoc h2, List.append_assoc]
theorem tl2_snoc : ∀ {l : Life} {s t o c : Nat}, go M s l = some t → tl2 M G s c (l ++ [o]) = tl2 M G s c l ++ (match (optA M t o).2 with | none => [] | some w => [(c + (mk2 M G s l).length + (rowA G t o).length, w)])
  | [], s, t, o, c, h => by
    cases h
    unfold tl2
    simp [tl2, mk2]
  | a :: l, s, t, o, c, h => by
    obtain ⟨p, h1, h2⟩ := Option.bind_eq_some_iff.mp (show ((opt M s a).bind fun p => go M p.1 l) = some t from h)
    have e : optA M s a = p := by unfold optA; rw [h1]; rfl
    show _ ++ tl2 M G (optA M s a).1 _ (l ++ [o]) = (_ ++ tl2 M G (optA M s a).1 _ l) ++ _
    rw [e, tl2_snoc h2, List.append_assoc]
    have e3 : (mk2 M G s (a :: l)).length = (rowA G s a).length + (mk2 M G p.1 l).length := by
      show (rowA G s a ++ mk2 M G (optA M s a).1 l).length = _
      rw [e, List.length_append]
    rw [e3, show c + (rowA G s a).length + (mk2 M G p.1 l).length = c + ((rowA G s a).length + (mk2 M G p.1 l).length) by omega]
theorem mkN_app {l : Life} {o : Nat} : ∀ j, j ≤ l.length → mkN M G (l ++ [o]) j = mkN M G l j ∧ tlN M G (l ++ [o]) j = tlN M G l j
  | 0, _ => ⟨rfl, rfl⟩
  | j + 1, h => by
    obtain ⟨h1, h2⟩ := mkN_app (l := l) (o := o) j (by omega)
    have e : (l ++ [o]).take (j + 1) = l.take (j + 1) := by rw [List.take_append_of_le_length (by omega)]
    have e1 : mkN M G (l ++ [o]) (j + 1) = mkN M G l (j + 1) := by
      show mkN M G (l ++ [o]) j ++ _ = mkN M G l j ++ _
      rw [h1, e]
    refine ⟨e1, ?_⟩
    show tlN M G (l ++ [o]) j ++ _ = tlN M G l j ++ _
    rw [h2, e, e1]
theorem rows_eq (hH : House M G m) {l : Life} {o u t : Nat} (h : go M 0 (l ++ [o]) = some t) (hu : go M 0 l = some u) : rowT M G (l ++ [o]) = rowA G u o ∧ wordT M (l ++ [o]) = (optA M u o).2 ∧ opt M u o ≠ none := by
  obtain ⟨u', p, rs, r, h1, h2, _, h3, h4, _, _, _, _, _, _, e1, e2⟩ := last_of hH h
  obtain rfl : u' = u := Option.some.inj (h1.symm.trans hu)
  rw [e1, e2]
  refine ⟨?_, ?_, by rw [h2]; simp⟩
  · unfold rowA
    rw [h3, Option.bind_some, h4]
    rfl
  · unfold optA
    rw [h2]
    rfl
theorem told_is (hH : House M G m) : ∀ (n : Nat) (l : Life), l.length = n → go M 0 l ≠ none → told M G l = tl2 M G 0 0 l ∧ mks M G l = mk2 M G 0 l := by
  intro n
  induction n with
  | zero =>
    intro l hl _
    have : l = [] := List.length_eq_zero_iff.mp hl
    subst this
    exact ⟨rfl, rfl⟩
  | succ n ih =>
    intro l hl hg
    rcases nil_or_snoc l with rfl | ⟨l', o, rfl⟩
    · cases hl
    · obtain ⟨t, ht⟩ := Option.ne_none_iff_exists'.mp hg
      obtain ⟨u, hu, _⟩ := go_pre ht
      have hl' : l'.length = n := by simpa using hl
      obtain ⟨i1, i2⟩ := ih l' hl' (by rw [hu]; simp)
      obtain ⟨r1, r2, _⟩ := rows_eq hH ht hu
      obtain ⟨a1, a2⟩ := mkN_app (M := M) (G := G) (o := o) l'.length (Nat.le_refl _)
      have e0 : (l' ++ [o]).length = l'.length + 1 := by simp
      have e1 : (l' ++ [o]).take (l'.length + 1) = l' ++ [o] := List.take_of_length_le (by simp)
      have m1 : mks M G (l' ++ [o]) = mk2 M G 0 l' ++ rowA G u o := by
        unfold mks
        rw [e0]
        show mkN M G (l' ++ [o]) l'.length ++ rowT M G ((l' ++ [o]).take (l'.length + 1)) = _
        rw [a1, e1, r1, ← i2]
        rfl
      refine ⟨?_, by rw [m1, mk2_snoc hu]⟩
      rw [tl2_snoc hu, ← i1]
      unfold told
      rw [e0]
      show tlN M G (l' ++ [o]) l'.length ++ _ = _
      have m2 : mkN M G (l' ++ [o]) (l'.length + 1) = mks M G (l' ++ [o]) := by
        unfold mks
        rw [e0]
      rw [a2, e1, r2, m2, m1, List.length_append, Nat.zero_add] <;> cases (optA M u o).2 <;> rfl
theorem alg_of {a b : List (Nat × Str)} (h : Alg a b) : alg a b = true := by
  unfold alg
  rcases h with ⟨c, rfl⟩ | ⟨c, rfl⟩ <;> simp
theorem alg_prefixes {α : Type} {a b h : List α} (h1 : ∃ c, h = a ++ c) (h2 : ∃ c, h = b ++ c) : Alg a b := by
  obtain ⟨c, rfl⟩ := h1
  obtain ⟨d, e⟩ := h2
  rcases List.append_eq_append_iff.mp e with ⟨x, rfl, _⟩ | ⟨x, rfl, _⟩
  · exact .inl ⟨x, rfl⟩
  · exact .inr ⟨x, rfl⟩
/-- a paper that holds: two lives upon the same wheel tell alike -/
theorem holds_safe (hH : House M G m) (hF : Holds M G dom F) {a b : Life} {h : List Nat} (ha : go M 0 a ≠ none) (hb : go M 0 b ≠ none) (h1 : ∃ c, h = mks M G a ++ c) (h2 : ∃ c, h = mks M G b ++ c) : alg (told M G a) (told M G b) = true := by
  obtain ⟨t1, m1⟩ := told_is hH a.length a rfl ha
  obtain ⟨t2, m2⟩ := told_is hH b.length b rfl hb
  rw [t1, t2]
  rw [m1] at h1
  rw [m2] at h2
  exact alg_of (walk_alike hH hF _ ⟨0, none, 0⟩ ⟨0, none, 0⟩ a b 0 (Nat.le_refl _) hF.start ha hb (alg_prefixes h1 h2))
end
end K29
set_option Elab.async false
set_option linter.all false
set_option maxRecDepth 100000
set_option maxHeartbeats 4000000
/-! the sealed manner: never dead, and who spoke spelled what the wheel turned. Plain Lean -/
namespace K29
open PySem PySem.Spec PyProof.Rows L2
/-- the marks of a life up to so many of its last row -/
def pm (M : Mach) (G : Tbl) (l : Life) (d : Nat) : List Nat := if l = [] then [] else mks M G l.dropLast ++ (rowT M G l).take d
def Pre (a h : List Nat) : Prop := ∃ c, h = a ++ c
theorem Pre.refl (h : List Nat) : Pre h h := ⟨[], by simp⟩
theorem Pre.snoc {a h : List Nat} (p : Pre a h) (x : Nat) : Pre a (h ++ [x]) := by
  obtain ⟨c, rfl⟩ := p
  exact ⟨c ++ [x], by rw [List.append_assoc]⟩
section
variable {M : Mach} {G : Tbl} {m : Nat}
theorem mks_snoc {l : Life} {o : Nat} : mks M G (l ++ [o]) = mks M G l ++ rowT M G (l ++ [o]) := by
  have e0 : (l ++ [o]).length = l.length + 1 := by simp
  have e1 : (l ++ [o]).take (l.length + 1) = l ++ [o] := List.take_of_length_le (by simp)
  unfold mks
  rw [e0]
  show mkN M G (l ++ [o]) l.length ++ rowT M G ((l ++ [o]).take (l.length + 1)) = _
  rw [(mkN_app (M := M) (G := G) (o := o) l.length (Nat.le_refl _)).1, e1]
theorem pm_full {l : Life} {d : Nat} (h : d = (rowT M G l).length) : pm M G l d = mks M G l := by
  rcases nil_or_snoc l with rfl | ⟨l', o, rfl⟩
  · rfl
  · unfold pm
    rw [if_neg (by simp), List.dropLast_concat, h, List.take_length, mks_snoc]
theorem pm_zero {l : Life} {o : Nat} : pm M G (l ++ [o]) 0 = mks M G l := by
  unfold pm
  rw [if_neg (by simp), List.dropLast_concat, List.take_zero, List.append_nil]
theorem pm_next {l : Life} {d : Nat} (h : d < (rowT M G l).length) : pm M G l (d + 1) = pm M G l d ++ [(rowT M G l).getD d 0] := by
  have hne : l ≠ [] := fun z => by
    subst z
    exact absurd h (Nat.not_lt_zero _)
  unfold pm
  rw [if_neg hne, if_neg hne, take_snoc' (getD_at h), List.append_assoc]
/-- a note of a time when the wheel had turned g -/
def NtI (M : Mach) (G : Tbl) (h : List Nat) (t : Nt) : Prop := (pm M G t.l t.d = [] ∧ t.n = 0 ∧ t.k = none) ∨ ∃ g x, pm M G t.l t.d = g ++ [x] ∧ t.n = g.length + 1 ∧ t.k = some x ∧ Pre g h
def SgI (M : Mach) (G : Tbl) (h : List Nat) (S : WS) : Prop := match S.stand with
  | .off => True
  | .mute => True
  | .choice l => mks M G l = h
  | .laid t => t ∈ S.shelf ∧ ∃ x, pm M G t.l t.d = h ++ [x] ∧ t.n = h.length + 1 ∧ t.k = some x
  | .ready _ _ => False
  | .bare _ _ => False
structure SealI (M : Mach) (G : Tbl) (h : List Nat) (S : WS) : Prop where
  rd : S.rd = (h.length, h.getLast?)
  nt : ∀ t ∈ S.shelf, NtI M G h t
  sg : SgI M G h S
  sp : ∀ l ∈ S.spoken, Pre (mks M G l) h
  fit : ∃ t ∈ S.shelf, t.n = S.rd.1 ∧ t.k = S.rd.2
/-- but for how it stands -/
structure SealB (M : Mach) (G : Tbl) (h : List Nat) (S : WS) : Prop where
  rd : S.rd = (h.length, h.getLast?)
  nt : ∀ t ∈ S.shelf, NtI M G h t
  sp : ∀ l ∈ S.spoken, Pre (mks M G l) h
  fit : ∃ t ∈ S.shelf, t.n = S.rd.1 ∧ t.k = S.rd.2
theorem SealI.b {h : List Nat} {S : WS} (i : SealI M G h S) : SealB M G h S := ⟨i.rd, i.nt, i.sp, i.fit⟩
theorem mem_of_if {α : Type} {x y : α} {l : List α} [Decidable (x ∈ l)] (h : y ∈ (if x ∈ l then l else l ++ [x])) : y ∈ l ∨ y = x := by
  split at h
  · exact .inl h
  · rcases List.mem_append.mp h with z | z
    · exact .inl z
    · exact .inr (List.mem_singleton.mp z)
theorem come_seal {h : List Nat} {S : WS} {l : Life} {d : Nat} (b : SealB M G h S) (hd : d ≤ (rowT M G l).length) (hp : pm M G l d = h) : SealI M G h (comeW .sealed M G l d S) := by
  unfold comeW
  by_cases z : d = (rowT M G l).length
  · rw [if_pos z, if_neg (fun w => nomatch w)]
    have hm : mks M G l = h := by rw [← pm_full z]; exact hp
    unfold sayW
    cases wordT M l with
    | none => exact ⟨b.rd, b.nt, hm, b.sp, b.fit⟩
    | some w =>
      refine ⟨b.rd, b.nt, hm, fun l' hl' => ?_, b.fit⟩
      rcases mem_of_if hl' with k | rfl
      · exact b.sp l' k
      · rw [hm]
        exact Pre.refl h
  · have hlt : d < (rowT M G l).length := by omega
    rw [if_neg z, if_neg (fun w => nomatch w), if_neg (fun w => nomatch w.1)]
    have hn : pm M G l (d + 1) = h ++ [(rowT M G l).getD d 0] := by rw [pm_next hlt, hp]
    have hr : S.rd.1 = h.length := by rw [b.rd]
    have mem : ∀ t, t ∈ (putW ⟨S.rd.1 + 1, some ((rowT M G l).getD d 0), l, d + 1⟩ S).shelf ↔ t ∈ S.shelf ∨ t = ⟨S.rd.1 + 1, some ((rowT M G l).getD d 0), l, d + 1⟩ := fun t => by
      unfold putW
      dsimp only
      exact mem_snoc_if
    refine ⟨b.rd, fun t ht => ?_, ?_, b.sp, ?_⟩
    · rcases (mem t).mp ht with k | rfl
      · exact b.nt t k
      · exact .inr ⟨h, _, hn, by rw [hr], rfl, Pre.refl h⟩
    · exact ⟨(mem _).mpr (.inr rfl), _, hn, by rw [hr], rfl⟩
    · obtain ⟨t, ht, e⟩ := b.fit
      exact ⟨t, (mem t).mpr (.inl ht), e⟩
theorem NtI.up {h : List Nat} {t : Nt} (n : NtI M G h t) (x : Nat) : NtI M G (h ++ [x]) t := by
  rcases n with z | ⟨g, y, h1, h2, h3, h4⟩
  · exact .inl z
  · exact .inr ⟨g, y, h1, h2, h3, h4.snoc x⟩
/-- a note that fits tells what the wheel turned -/
theorem fit_is {h : List Nat} {t : Nt} (n : NtI M G h t) (h1 : t.n = h.length) (h2 : t.k = h.getLast?) : pm M G t.l t.d = h := by
  rcases n with ⟨z1, z2, z3⟩ | ⟨g, x, z1, z2, z3, c, z4⟩
  · rw [z1]
    exact (List.length_eq_zero_iff.mp (by omega)).symm
  · subst z4
    rw [List.length_append] at h1
    have hc : c.length = 1 := by omega
    obtain ⟨y, rfl⟩ := List.length_eq_one_iff.mp hc
    rw [z3, List.getLast?_append] at h2
    simp at h2
    rw [z1, h2]
/-- what is reached, sealed -/
theorem rch_seal (hH : House M G m) {k : Nat} {S : WS} (r : Rch .sealed M G k S) : ∃ h, SealI M G h S := by
  induction r with
  | zero => exact ⟨[], rfl, fun t ht => by cases List.mem_singleton.mp ht; exact .inl ⟨rfl, rfl, rfl⟩, trivial, fun l hl => (by cases hl), ⟨0, none, [], 0⟩, List.mem_singleton.mpr rfl, rfl, rfl⟩
  | @succ k S st r hc hm ih =>
    obtain ⟨h, i⟩ := ih
    have g := (rch_good hH r).1
    have hb := i.b
    unfold canW at hc
    cases hs : S.stand with
    | off =>
      rw [hs] at hc
      obtain ⟨t, ht, rfl⟩ := List.mem_map.mp hc
      have hf := mute_fits hm
      refine ⟨h, ?_⟩
      show SealI M G h (if fitsW .sealed S.rd t = true then comeW .sealed M G t.l t.d S else { S with stand := .mute })
      rw [if_pos hf]
      have hf2 : t.n = S.rd.1 ∧ t.k = S.rd.2 := by simpa [fitsW] using hf
      rw [i.rd] at hf2
      exact come_seal hb (g.sh t ht).d (fit_is (i.nt t ht) hf2.1 hf2.2)
    | mute =>
      rw [hs] at hc
      cases List.mem_singleton.mp hc
      exact ⟨h, i.rd, i.nt, trivial, i.sp, i.fit⟩
    | choice l =>
      have hsg := i.sg
      unfold SgI at hsg
      rw [hs] at hc hsg
      rcases List.mem_cons.mp hc with rfl | hc
      · exact ⟨h, i.rd, i.nt, trivial, i.sp, i.fit⟩
      · obtain ⟨o, ho, rfl⟩ := List.mem_map.mp hc
        refine ⟨h, ?_⟩
        unfold stepW
        rw [hs]
        exact come_seal hb (Nat.zero_le _) (by rw [pm_zero]; exact hsg)
    | laid t =>
      have hsg := i.sg
      unfold SgI at hsg
      rw [hs] at hc hsg
      obtain ⟨ht, x, h1, h2, h3⟩ := hsg
      simp only [List.mem_cons, List.not_mem_nil, or_false] at hc
      rcases hc with rfl | rfl
      · exact ⟨h, i.rd, i.nt, trivial, i.sp, i.fit⟩
      · refine ⟨h ++ [x], ?_⟩
        unfold stepW
        rw [hs]
        have hr : S.rd.1 = h.length := by rw [i.rd]
        refine come_seal ⟨?_, fun t' ht' => (i.nt t' ht').up x, fun l hl => (i.sp l hl).snoc x, t, ht, ?_, rfl⟩ (g.sh t ht).d h1
        · rw [h3, hr]
          simp
        · rw [h2, hr]
    | ready l d =>
      have hsg := i.sg
      unfold SgI at hsg
      rw [hs] at hsg
      exact hsg.elim
    | bare l d =>
      have hsg := i.sg
      unfold SgI at hsg
      rw [hs] at hsg
      exact hsg.elim
/-- sealed: harm is two lives, and then no paper holds -/
theorem seal_harm (hH : House M G m) {k : Nat} {S : WS} (r : Rch .sealed M G k S) {x : Str} (hx : harmW .sealed M G S = some x) : x = "two lives" ∧ ∀ (dom : Nat → Prop) (F : Pl × Pl → Prop), ¬ Holds M G dom F := by
  obtain ⟨h, i⟩ := rch_seal hH r
  have g := (rch_good hH r).1
  have hd : deadW .sealed S = false := by
    obtain ⟨t, ht, h1, h2⟩ := i.fit
    unfold deadW
    have : S.shelf.any (fun t => fitsW .sealed S.rd t) = true := List.any_eq_true.mpr ⟨t, ht, by simp [fitsW, h1, h2]⟩
    rw [this]
    rfl
  unfold harmW at hx
  by_cases z : TwoW M G S
  · rw [if_pos z] at hx
    refine ⟨(Option.some.inj hx).symm, fun dom F hF => ?_⟩
    obtain ⟨a, ha, b, hb, e⟩ := z
    obtain ⟨⟨⟨s, hs⟩, _⟩, _⟩ := g.sp a ha
    obtain ⟨⟨⟨s', hs'⟩, _⟩, _⟩ := g.sp b hb
    rw [holds_safe hH hF (by rw [hs]; simp) (by rw [hs']; simp) (i.sp a ha) (i.sp b hb)] at e
    cases e
  · rw [if_neg z, hd] at hx
    simp at hx
end
end K29
set_option Elab.async false
set_option linter.all false
set_option maxRecDepth 100000
set_option maxHeartbeats 4000000
/-! the places of a machine and where they lead: the walks -/
namespace K29
open PySem PySem.Spec PyProof.Rows L2
local macro_rules | `(tactic| walk_at "kp") => `(tactic| first | exact Kp.refl _ | assumption | exact Chg.kp (by assumption) | (refine Kp.trans ?_ (Chg.kp (by assumption)); walk_at "kp"))
local macro_rules | `(tactic| walk_at "ext") => `(tactic| first | exact Ext.refl _ | assumption | (refine Ext.trans ?_ (by assumption); walk_at "ext"))

/-! ### which states can say a word -/
def SayIn (M : Mach) : Nat → Nat → Prop
  | 0, _ => False
  | r + 1, s => ∃ o q, opt M s o = some q ∧ (q.2 ≠ none ∨ SayIn M r q.1)
def Say (M : Mach) (s : Nat) : Prop := ∃ r, SayIn M r s
theorem say_near {M : Mach} : ∀ s o q, opt M s o = some q → (q.2 ≠ none ∨ Say M q.1) → Say M s := fun s o q h k => by
  rcases k with k | ⟨r, k⟩
  · exact ⟨1, o, q, h, .inl k⟩
  · exact ⟨r + 1, o, q, h, .inr k⟩
theorem sayIn_up {M : Mach} : ∀ {r s : Nat}, SayIn M r s → SayIn M (r + 1) s
  | 0, _, h => h.elim
  | r + 1, s, ⟨o, q, h1, h2⟩ => ⟨o, q, h1, h2.imp id fun z => sayIn_up z⟩
theorem opt_s {M : Mach} {s o : Nat} {q : Nat × Wd} (h : opt M s o = some q) : s < M.length := by
  obtain ⟨st, h1, _⟩ := Option.bind_eq_some_iff.mp h
  exact (List.getElem?_eq_some_iff.mp h1).1
/-- in a house of two states two options are enough -/
theorem say_two {M : Mach} {G : Tbl} {m : Nat} (hH : House M G m) : ∀ {r s : Nat}, SayIn M r s → SayIn M 2 s
  | 0, _, h => h.elim
  | r + 1, s, ⟨o, q, h1, h2⟩ => by
    rcases h2 with h2 | h2
    · exact ⟨o, q, h1, .inl h2⟩
    · obtain ⟨o', q', g1, g2⟩ := say_two hH h2
      rcases g2 with g2 | ⟨o'', q'', k1, k2⟩
      · exact ⟨o, q, h1, .inr ⟨o', q', g1, .inl g2⟩⟩
      · have k3 : q''.2 ≠ none := k2.elim id fun z => z.elim
        have l1 := opt_s h1
        have l2 := opt_s g1
        have l3 := opt_s k1
        have few := hH.few
        by_cases e : q'.1 = s
        · rw [e] at k1
          exact ⟨o'', q'', k1, .inl k3⟩
        · by_cases e2 : q.1 = s
          · rw [e2] at g1
            exact ⟨o', q', g1, .inr ⟨o'', q'', k1, .inl k3⟩⟩
          · have e3 : q'.1 = q.1 := by omega
            rw [e3] at k1
            exact ⟨o, q, h1, .inr ⟨o'', q'', k1, .inl k3⟩⟩
/-! ### data -/
def ePl (p : Pl) : Dt := .tup [eN p.s, eK p.o, eN p.d]
def ePr (p : Pl × Pl) : Dt := .tup [ePl p.1, ePl p.2]
theorem ePl_inj {a b : Pl} : ePl a = ePl b ↔ a = b := by
  obtain ⟨a1, a2, a3⟩ := a
  obtain ⟨b1, b2, b3⟩ := b
  simp [ePl, eN_inj, eK_inj]
theorem ePr_inj {a b : Pl × Pl} : ePr a = ePr b ↔ a = b := by
  obtain ⟨a1, a2⟩ := a
  obtain ⟨b1, b2⟩ := b
  simp [ePr, ePl_inj]
theorem ok_ePr {p : Pl × Pl} : ok 8 (ePr p) = true := by
  have h : ∀ q : Pl, ok 7 (ePl q) = true := fun q => by
    refine ok_tup fun d hd => ?_
    simp only [List.mem_cons, List.not_mem_nil, or_false] at hd
    rcases hd with rfl | rfl | rfl
    · exact ok_eN
    · exact ok_eK
    · exact ok_eN
  refine ok_tup fun d hd => ?_
  simp only [List.mem_cons, List.not_mem_nil, or_false] at hd
  rcases hd with rfl | rfl
  · exact h _
  · exact h _
/-- a place of the machine -/
def PlOk (M : Mach) (G : Tbl) (p : Pl) : Prop := p.s < M.length ∧ match p.o with
  | none => p.d = 0
  | some o => o < optsA M p.s ∧ p.d < (rowA G p.s o).length
theorem opt_at {M : Mach} {G : Tbl} {m : Nat} (hH : House M G m) {s o : Nat} (h : o < optsA M s) : ∃ st, M[s]? = some st ∧ st[o]? = some (optA M s o) ∧ opt M s o = some (optA M s o) ∧ ∃ rs, G[s]? = some rs ∧ rs[o]? = some (rowA G s o) ∧ 1 ≤ (rowA G s o).length ∧ (rowA G s o).length ≤ 2 ∧ (optA M s o).1 < M.length ∧ WdOk (optA M s o).2 := by
  unfold optsA at h
  cases e : M[s]? with
  | none =>
    rw [e] at h
    exact absurd h (Nat.not_lt_zero _)
  | some st =>
    rw [e] at h
    have h : o < st.length := h
    have h2 : st[o]? = some st[o] := List.getElem?_eq_getElem h
    have h3 : opt M s o = some st[o] := by
      unfold opt
      rw [e, Option.bind_some, h2]
    have h4 : optA M s o = st[o] := by unfold optA; rw [h3]; rfl
    obtain ⟨rs, r, g1, g2, g3, g4, _⟩ := hH.rowAt h3
    have h5 : rowA G s o = r := by unfold rowA; rw [g1, Option.bind_some, g2]; rfl
    obtain ⟨k1, k2⟩ := hH.opt h3
    rw [h4, h5]
    exact ⟨st, rfl, h2, h3, rs, g1, g2, g3, g4, k1, k2⟩
/-- near: states and numbers -/
def IntV (kvs : List (Key × V)) : Prop := ∀ k v, valV kvs k = some v → ∃ i, v = .int i
def domK (kvs : List (Key × V)) (s : Nat) : Prop := valV kvs (.inl (s : Int)) ≠ none
def kFs (a b : V) (N : Addr) : List (Str × V) := [("machine", a), ("table", b), ("near", .ref N)]
/-- a Walk stands at p -/
def KAt (K : PySem.W.Frag) (H : Hp) (p N : Addr) (M : Mach) (G : Tbl) (kvs : List (Key × V)) : Prop :=
  ∃ (dx : Addr) (a b : V), H p = some (.ins (He.ga K "Walk") dx (kFs a b N)) ∧ Im K H a (eM M) ∧ Im K H b (eT G) ∧ H N = some (.dK kvs)
section
variable {w : World} {K : PySem.W.Frag} {mg : Str → Option Value} {base : Heap} {H H' H0 H1 H2 : Hp} {p N : Addr} {M : Mach} {G : Tbl} {kvs : List (Key × V)} {σ : L2.St} {ta te tv tx : TE} {D : Ends} {tz : TS} {ds : List Dt} {TL : List Addr} {E : XK} {tr : TA} {d : Dt} {m : Str} {es : List Dt}
theorem KAt.to (h : KAt K H p N M G kvs) (e : Ext H H') : KAt K H' p N M G kvs := by
  obtain ⟨dx, a, b, h0, h1, h2, h3⟩ := h
  exact ⟨dx, a, b, e.get h0, h1.to e.kp, h2.to e.kp, e.get h3⟩
theorem KAt.chg {A : List Addr} (h : KAt K H p N M G kvs) (e : Chg A H H') (hp : p ∉ A) (hN : N ∉ A) : KAt K H' p N M G kvs := by
  obtain ⟨dx, a, b, h0, h1, h2, h3⟩ := h
  exact ⟨dx, a, b, e.obj p _ hp h0 (by intro ps z; cases z), h1.to e.kp, h2.to e.kp, e.obj N _ hN h3 (by intro ps z; cases z)⟩
theorem KAt.live {l : Addr} (h : KAt K H p N M G kvs) (hl : H l = none) : p ≠ l ∧ N ≠ l := by
  obtain ⟨dx, a, b, h0, h1, h2, h3⟩ := h
  exact ⟨ne_of_none h0 hl, ne_of_none h3 hl⟩
theorem ed_kMachine (T : Txt w K mg base) (h : EdV ta σ H (.ref p)) (hW : KAt K H p N M G kvs) : Ed K (tFld K ta "machine") σ H (eM M) := by
  obtain ⟨dx, a, b, h0, h1, h2, h3⟩ := hW
  exact ed_of (ev_fld h h0 T.c_Walk T.n_k_machine (by rfl)) h1 (Kp.refl H)
theorem ed_kTable (T : Txt w K mg base) (h : EdV ta σ H (.ref p)) (hW : KAt K H p N M G kvs) : Ed K (tFld K ta "table") σ H (eT G) := by
  obtain ⟨dx, a, b, h0, h1, h2, h3⟩ := hW
  exact ed_of (ev_fld h h0 T.c_Walk T.n_k_table (by rfl)) h2 (Kp.refl H)
theorem ev_kNear (T : Txt w K mg base) (h : EdV ta σ H (.ref p)) (hW : KAt K H p N M G kvs) : EdV (tFld K ta "near") σ H (.ref N) := by
  obtain ⟨dx, a, b, h0, h1, h2, h3⟩ := hW
  exact ev_fld h h0 T.c_Walk T.n_k_near (by rfl)
theorem KAt.near (h : KAt K H p N M G kvs) : H N = some (.dK kvs) := by
  obtain ⟨dx, a, b, h0, h1, h2, h3⟩ := h
  exact h3
/-- not among the keys -/
theorem ed_kNin {s : Nat} {k : Bool} (h : EdV tv σ H (.ref N)) (hN : H N = some (.dK kvs)) (hs : Ed K te σ H (eN s)) (hk : k = true ↔ ¬ domK kvs s) : Ed K (tDNotIn te tv) σ H (.bl k) := fun H1 e Q z =>
  hs H1 e _ fun v H2 e2 hv => h H2 (e.trans e2) _ fun H3 e3 => by
    cases hv
    refine ⟨N, valV kvs (.inl (s : Int)), rfl, DGet.k (k := .inl (s : Int)) ((e.trans (e2.trans e3)).get hN), ?_⟩
    have ek : (!(valV kvs (.inl (s : Int))).isSome) = k := by
      rw [Bool.eq_iff_iff, hk]
      unfold domK
      cases valV kvs (.inl (s : Int)) <;> simp
    rw [ek]
    exact z _ H3 (e2.trans e3) (.bl k)
/-- what is kept of a key -/
theorem ed_kGet {s : Nat} {i : Int} (h : EdV tv σ H (.ref N)) (hN : H N = some (.dK kvs)) (hs : Ed K te σ H (eN s)) (hi : valV kvs (.inl (s : Int)) = some (.int i)) : Ed K (tDGet tv te) σ H (.int i) := fun H1 e Q z =>
  h H1 e _ fun H2 e2 => hs H2 (e.trans e2) _ fun v H3 e3 hv => by
    cases hv
    have g := DGet.k (k := .inl (s : Int)) ((e.trans (e2.trans e3)).get hN)
    rw [hi] at g
    exact ⟨N, .int i, rfl, g, z _ H3 (e2.trans e3) (.int i)⟩
theorem ed_kGet2 {s : Nat} {i j : Int} (h : EdV tv σ H (.ref N)) (hN : H N = some (.dK kvs)) (hs : Ed K te σ H (eN s)) (hj : Ed K tx σ H (.int j)) (hi : ((valV kvs (.inl (s : Int))).getD (.int j)) = .int i) : Ed K (tDGet2 tv te tx) σ H (.int i) := fun H1 e Q z =>
  h H1 e _ fun H2 e2 => ⟨N, rfl, .inl ⟨kvs, .inl ((e.trans e2).get hN)⟩, hs H2 (e.trans e2) _ fun v H3 e3 hv => hj H3 (e.trans (e2.trans e3)) _ fun x H4 e4 hx => by
    cases hv
    cases hx
    refine ⟨_, DGet.k (k := .inl (s : Int)) ((e.trans (e2.trans (e3.trans e4))).get hN), ?_⟩
    rw [hi]
    exact z _ H4 (e2.trans (e3.trans e4)) (.int i)⟩
theorem ed_kGet1 {s : Nat} (h : EdV tv σ H (.ref N)) (hN : H N = some (.dK kvs)) (hs : Ed K te σ H (eN s)) (hd : ∀ H, Im K H ((valV kvs (.inl (s : Int))).getD .non) d) : Ed K (tDGet1 tv te) σ H d := fun H1 e Q z =>
  h H1 e _ fun H2 e2 => ⟨N, rfl, .inl ⟨kvs, .inl ((e.trans e2).get hN)⟩, hs H2 (e.trans e2) _ fun v H3 e3 hv => by
    cases hv
    exact ⟨_, DGet.k (k := .inl (s : Int)) ((e.trans (e2.trans e3)).get hN), z _ H3 (e2.trans e3) (hd H3)⟩⟩
theorem st_kPut {s : Nat} {i : Int} (hi : Ed K tv σ H (.int i)) (h : EdV ta σ H (.ref N)) (hs : Ed K te σ H (eN s)) (hW : KAt K H p N M G kvs) (hl : kvs.length ≤ 1000) (k : ∀ H1, Chg [N] H H1 → KAt K H1 p N M G (putK kvs (.inl (s : Int)) (.int i)) → D.nx σ H1) : sDPut ta te tv D σ H :=
  hi H (Ext.refl H) _ fun v H1 e1 hv => h H1 e1 _ fun H2 e2 => hs H2 (e1.trans e2) _ fun y H3 e3 hy => by
    cases hv
    cases hy
    obtain ⟨dx, a, b, h0, h1, h2, h3⟩ := hW.to (e1.trans (e2.trans e3))
    have cg : Chg [N] H3 (upd H3 N (.dK (putK kvs (.inl (s : Int)) (.int i)))) := Chg.put h3
    have hpN : p ∉ [N] := fun z => by
      rw [List.mem_singleton.mp z, h3] at h0
      cases h0
    exact ⟨N, _, rfl, DPut.k (k := .inl (s : Int)) h3 (Nat.lt_of_le_of_lt hl (by decide)), k _ ((e1.trans (e2.trans e3)).chg.trans cg) ⟨dx, a, b, cg.obj p _ hpN h0 (by intro ps z; cases z), h1.to cg.kp, h2.to cg.kp, upd_same⟩⟩
theorem putK_len {kvs : List (Key × V)} {k : Key} {v : V} : (putK kvs k v).length ≤ kvs.length + 1 := by
  unfold putK
  split
  · simp
  · simp
theorem intV_put {kvs : List (Key × V)} {k : Key} {i : Int} (h : IntV kvs) : IntV (putK kvs k (.int i)) := fun j v hv => by
  rw [valV_put] at hv
  split at hv
  · exact ⟨i, (Option.some.inj hv).symm⟩
  · exact h j v hv
theorem dom_put {kvs : List (Key × V)} {s t : Nat} {v : V} : domK (putK kvs (.inl (s : Int)) v) t ↔ t = s ∨ domK kvs t := by
  unfold domK
  rw [valV_put]
  by_cases h : t = s
  · subst h
    simp
  · have e : ¬ (Sum.inl (t : Int) : Key) = .inl (s : Int) := fun z => h (by injection z with z; omega)
    rw [if_neg e]
    simp [h]
/-! ### promises -/
def SpKF (K : PySem.W.Frag) (TL : List Addr) (R : List Dt → Mach → Tbl → List (Key × V) → Dt → Prop) : Sp := fun vs H Q _ => ∃ (p N : Addr) (rest : List V) (ds : List Dt) (M : Mach) (G : Tbl) (kvs : List (Key × V)) (d : Dt), vs = .ref p :: rest ∧ ImAll K H rest ds ∧ Tabs TL H ∧ KAt K H p N M G kvs ∧ R ds M G kvs d ∧ ∀ v H', Ext H H' → Im K H' v d → Q v H'
def SpKG (K : PySem.W.Frag) (TL : List Addr) (R : List Dt → Mach → Tbl → List (Key × V) → List Dt → Prop) : Sp := fun vs H Q _ => ∃ (p N : Addr) (rest : List V) (ds : List Dt) (M : Mach) (G : Tbl) (kvs : List (Key × V)) (es : List Dt), vs = .ref p :: rest ∧ ImAll K H rest ds ∧ Tabs TL H ∧ KAt K H p N M G kvs ∧ R ds M G kvs es ∧ ∀ l H', Ext H H' → H l = none → LsM K H' l es → Q (.ref l) H'
def BareK (m : Str) : Prop := ∀ (a b : V) (N : Addr), (kFs a b N).lookup m = none
theorem ed_kCall {R : List Dt → Mach → Tbl → List (Key × V) → Dt → Prop} (h0 : EdV ta σ H (.ref p)) (hW : KAt K H p N M G kvs) (h : EdA K tr σ H ds) (ht : Tabs TL H0) (hk : Kp H0 H) (hr : R ds M G kvs d) (hm : BareK m := by intro _ _ _; rfl) : Ed K (tMeth (He.ga K "Walk") m (SpKF K TL R) [] E ta tr) σ H d := fun H1 e Q z =>
  h0 H1 e _ fun H2 e2 => by
    obtain ⟨dx, a, b, g0, _⟩ := hW.to (e.trans e2)
    exact ⟨p, dx, _, rfl, g0, hm .., h H2 (e.trans e2) _ fun vs H3 e3 hs => ⟨p, N, vs, ds, M, G, kvs, d, by rw [List.append_nil], hs, ht.to (((hk.trans e.kp).trans e2.kp).trans e3.kp), hW.to ((e.trans e2).trans e3), hr, fun v H4 e4 hv => z v H4 (e2.trans (e3.trans e4)) hv⟩⟩
theorem en_kCall {R : List Dt → Mach → Tbl → List (Key × V) → List Dt → Prop} (h0 : EdV ta σ H (.ref p)) (hW : KAt K H p N M G kvs) (h : EdA K tr σ H ds) (ht : Tabs TL H0) (hk : Kp H0 H) (hr : R ds M G kvs es) (hm : BareK m := by intro _ _ _; rfl) : EdN K (tMeth (He.ga K "Walk") m (SpKG K TL R) [] E ta tr) σ H es := fun H1 e Q z =>
  h0 H1 e _ fun H2 e2 => by
    obtain ⟨dx, a, b, g0, _⟩ := hW.to (e.trans e2)
    exact ⟨p, dx, _, rfl, g0, hm .., h H2 (e.trans e2) _ fun vs H3 e3 hs => ⟨p, N, vs, ds, M, G, kvs, es, by rw [List.append_nil], hs, ht.to (((hk.trans e.kp).trans e2.kp).trans e3.kp), hW.to ((e.trans e2).trans e3), hr, fun v H4 e4 hn hv => z v H4 (e2.trans (e3.trans e4)) (e2.free (e3.free hn)) hv⟩⟩
end
end K29
set_option Elab.async false
set_option linter.all false
set_option maxRecDepth 100000
set_option maxHeartbeats 4000000
/-! the places of a machine: near, choices, marks -/
namespace K29
open PySem PySem.Spec PyProof.Rows L2
local macro_rules | `(tactic| walk_at "kp") => `(tactic| first | exact Kp.refl _ | assumption | exact Chg.kp (by assumption) | (refine Kp.trans ?_ (Chg.kp (by assumption)); walk_at "kp"))
local macro_rules | `(tactic| walk_at "ext") => `(tactic| first | exact Ext.refl _ | assumption | (refine Ext.trans ?_ (by assumption); walk_at "ext"))

theorem Chg.dropNew {H H1 H2 : Hp} {A : List Addr} {l : Addr} (c : Chg A H H1) (d : Chg [l] H1 H2) (n : H l = none) : Chg A H H2 := ⟨c.kp.trans d.kp, fun b o nb hb t => d.obj b o (fun z => by
  rw [List.mem_singleton.mp z, n] at hb
  cases hb) (c.obj b o nb hb t) t⟩
section
variable {w : World} {K : PySem.W.Frag} {mg : Str → Option Value} {base : Heap} {H H' H0 H1 H2 : Hp} {p N dx : Addr} {M : Mach} {G : Tbl} {kvs : List (Key × V)} {σ : L2.St} {ta te tv tx : TE} {D : Ends} {tz : TS} {d : Dt} {f : Str} {fs : List (Str × V)} {a b c : Option V} {s : Nat} {mk : Int}
theorem g_pair2 {i j k : Nat} {v : V} {a b c : Dt} {Q : L2.St → Hp → Prop} (h : Im K H v (.tup [a, .tup [b, c]])) (q : ∀ x y z, Im K H x a → Im K H y b → Im K H z c → Q (((σ.set i (some x)).set j (some y)).set k (some z)) H) : gTup K 2 (gCons (gName i) (gCons (gTup K 2 (gCons (gName j) (gCons (gName k) gNil))) gNil)) v σ H Q := by
  cases h with
  | tup s1 s2 =>
    cases s2 with
    | cons h1 t1 =>
      cases t1 with
      | cons h2 t2 =>
        cases t2
        cases h2 with
        | tup s3 s4 =>
          cases s4 with
          | cons h3 t3 =>
            cases t3 with
            | cons h4 t4 =>
              cases t4
              exact ⟨_, _, rfl, s1, rfl, _, _, rfl, _, _, rfl, _, _, rfl, s3, rfl, _, _, rfl, _, _, rfl, rfl, (show (_ : Prop) from rfl), q _ _ _ h1 h3 h4⟩
theorem near_tail (T : Txt w K mg base) (hW : KAt K H p N M G kvs) (hI : IntV kvs) (hl : kvs.length ≤ 900) (k : ∀ H1 kvs', Chg [N] H H1 → KAt K H1 p N M G kvs' → IntV kvs' → (∀ t, domK kvs t → domK kvs' t) → domK kvs' s → kvs'.length ≤ kvs.length + 1 → D.nx [some (.ref p), some (.int (s : Int)), a, b, c, some (.int mk)] H1) :
    tIfS (tTest (tOp rLtX (tVar 5) (tDGet2 (tFld K (tVar 0) "near") (tVar 1) (tOp (rAddX K) (tVar 5) (tC (.int 1)))))) (sDPut (tFld K (tVar 0) "near") (tVar 1) (tVar 5)) tNext D [some (.ref p), some (.int (s : Int)), a, b, c, some (.int mk)] H := by
  obtain ⟨i, hi⟩ : ∃ i, ((valV kvs (.inl (s : Int))).getD (.int (mk + 1))) = .int i := by
    cases e : valV kvs (.inl (s : Int)) with
    | none => exact ⟨mk + 1, rfl⟩
    | some v =>
      obtain ⟨i, rfl⟩ := hI _ _ e
      exact ⟨i, rfl⟩
  refine st_if (k := decide (mk < i)) (et_test (ed_op (K := K) ed_vi (ed_kGet2 (ev_kNear T ev_v hW) hW.near ed_vi (ed_op ed_vi ed_int rd_addI) hi) rd_lt)) (fun z H1 e1 => ?_) fun z H1 e1 => ?_
  · refine st_kPut (K := K) (s := s) ed_vi (ev_kNear T ev_v (hW.to e1)) ed_vi (hW.to e1) (by omega) fun H2 c2 hW2 => k H2 _ (e1.chg.trans c2) hW2 (intV_put hI) (fun t ht => dom_put.mpr (.inr ht)) (dom_put.mpr (.inl rfl)) putK_len
  · refine k H1 kvs e1.chg (hW.to e1) hI (fun t ht => ht) ?_ (Nat.le_succ _)
    intro z2
    rw [z2] at hi
    have hi : V.int (mk + 1) = V.int i := hi
    injection hi with hi
    have := of_decide_eq_false z
    omega
theorem q_kfld (T : Txt w K mg base) (nf : NoAttr K (He.ga K "Walk") f) (hv : Ed K tv σ H d) (h : EdV ta σ H (.ref p)) (hp : H p = some (.ins (He.ga K "Walk") dx fs)) (hl : fs.length < 1000) (k : ∀ v H1, Chg [p] H H1 → Im K H1 v d → H1 p = some (.ins (He.ga K "Walk") dx (putF f v fs)) → tz D σ H1) : tSeq (sFld K ta tv f) tz D σ H :=
  hv H (Ext.refl H) _ fun v H1 e1 hv1 => h H1 e1 _ fun H2 e2 => by
    have h0 := (e1.trans e2).get hp
    have cg : Chg [p] H2 (upd H2 p (.ins (He.ga K "Walk") dx (putF f v fs))) := Chg.put h0
    exact ⟨p, _, dx, _, rfl, h0, T.c_Walk, nf, hl, k v _ ((e1.trans e2).chg.trans cg) (hv1.to (e2.kp.trans cg.kp)) upd_same⟩
/-- self.near = {} -/
theorem q_kfldD (T : Txt w K mg base) (nf : NoAttr K (He.ga K "Walk") f) (h : EdV ta σ H (.ref p)) (hp : H p = some (.ins (He.ga K "Walk") dx fs)) (hl : fs.length < 1000) (k : ∀ N H1, Chg [p] H H1 → H N = none → H1 N = some (.dK []) → H1 p = some (.ins (He.ga K "Walk") dx (putF f (.ref N) fs)) → tz D σ H1) : tSeq (sFld K ta tDNewK f) tz D σ H := fun N hN => by
  have e1 : Ext H (upd H N (.dK [])) := Ext.new hN
  refine h _ e1 _ fun H2 e2 => ?_
  have h0 := (e1.trans e2).get hp
  have hN2 : H2 N = some (.dK []) := e2.get upd_same
  have cg : Chg [p] H2 (upd H2 p (.ins (He.ga K "Walk") dx (putF f (.ref N) fs))) := Chg.put h0
  exact ⟨p, _, dx, _, rfl, h0, T.c_Walk, nf, hl, k N _ ((e1.trans e2).chg.trans cg) hN (cg.obj N _ (fun z => by
    rw [List.mem_singleton.mp z, h0] at hN2
    cases hN2) hN2 (by intro ps z; cases z)) upd_same⟩
end
section
variable {P : Program} {w : World} {K : PySem.W.Frag} {mg : Str → Option Value} {base : Heap}
def SpBring (K : PySem.W.Frag) : Sp := fun vs H Q _ => ∃ (p N : Addr) (M : Mach) (G : Tbl) (kvs : List (Key × V)) (m s : Nat), vs = [.ref p, .int (s : Int)] ∧ KAt K H p N M G kvs ∧ IntV kvs ∧ House M G m ∧ s < M.length ∧ kvs.length ≤ 500 ∧
  ∀ H' kvs', Chg [N] H H' → KAt K H' p N M G kvs' → IntV kvs' → (∀ t, domK kvs t → domK kvs' t) → (∀ o q, opt M s o = some q → (q.2 ≠ none ∨ domK kvs q.1) → domK kvs' s) → kvs'.length ≤ kvs.length + 2 → Q .non H'
theorem sc_k_bring_near : FnScope ["self", "state", "option", "after", "word", "marks"] ["self", "state"] (defScope s_k_bring_near) := ⟨rfl, rfl, rfl, by decide +kernel, rfl, by decide +kernel, by decide +kernel⟩
theorem ok_k_bring_near (T : Txt w K mg base) : Ok P w K mg base 1 ("Walk", some "bring_near") ["self", "state"] (SpBring K) := by
  refine ok_of (k := 0) T.f_k_bring_near sc_k_bring_near (fun vs H Q E h => ?_) (fun _ _ _ _ _ _ us hl => match us, hl with | [_, _], _ => rfl) (fun cdv A outer s H vs Q E hr h => ?_)
  · obtain ⟨p, N, M, G, kvs, m, s, rfl, _⟩ := h
    rfl
  · obtain ⟨p, N, M, G, kvs, m, s, rfl, hW, hI, hH, hs, hl, hQ⟩ := h
    refine ⟨_, (pss_one (ps_for PassesOwn.never rfl (pi_enumT (by rfl) T.g_enumerate (pa_cons (pe_ix (r := rIx K) ix_seq (pe_fldK (K := K) rfl (pv 0) rfl) (pv 1) (fun _ _ => rfl)) pa_nil)) (pg_tup rfl (pgs_cons (pg_name (i := 2) sc_k_bring_near.nd rfl (Or.inl rfl)) (pgs_cons (pg_tup rfl (pgs_cons (pg_name (i := 3) sc_k_bring_near.nd rfl (Or.inl rfl)) (pgs_cons (pg_name (i := 4) sc_k_bring_near.nd rfl (Or.inl rfl)) pgs_nil))) pgs_nil)))
        (pss_cons (ps_set (i := 5) sc_k_bring_near.nd rfl (Or.inl rfl) (pe_callB (id := "len") (r := rLenX K) call_lenX (by rfl) T.g_len (by decide +kernel) (pa_cons (pe_ix (r := rIx K) ix_seq (pe_ix (r := rIx K) ix_seq (pe_fldK (K := K) rfl (pv 0) rfl) (pv 1) (fun _ _ => rfl)) (pv 2) (fun _ _ => rfl)) pa_nil)))
        (pss_cons (ps_if (pt_cmp (pc_isN (pv 4))) (pss_cons (ps_if (pt_cmp (pc_dnotin (hu_of hr) (pv 3) (pe_fldK (K := K) rfl (pv 0) rfl))) (pss_one ps_continue) pss_nil)
          (pss_one (ps_aug (i := 5) sc_k_bring_near.nd rfl (Or.inl rfl) (pe_dget (hu_of hr) (pe_fldK (K := K) rfl (pv 0) rfl) (pv 3) (fun _ _ => rfl)) ip_add))) pss_nil)
        (pss_one (ps_if (pt_cmpR op_ltX (pv 5) (pe_dget2 (hu_of hr) (pe_fldK (K := K) rfl (pv 0) rfl) (pv 1) (pe_op (r := rAddX K) op_addX (pv 5) pe_int) ⟨by rfl, by rfl, by rfl, by rfl⟩) (nomark _)) (pss_one (ps_dput (hu_of hr) (pe_fldK (K := K) rfl (pv 0) rfl) (pv 1) (pv 5) rfl)) pss_nil)))))), ?_⟩
    try dsimp only [cxOf, Cx.nox, Cx.wish]
    refine rd_start [some (.ref p), some (.int (s : Int)), none, none, none, none] ?_
    have hst : M[s]? = some M[s] := List.getElem?_eq_getElem hs
    have hst2 := hH.st M[s] (List.getElem_mem hs)
    refine st_forE (ed_op (ed_kMachine T ev_v hW) ed_vi (rd_ix (at_map hst))) (fun H1 j σ' H' => ∃ (a b c d : Option V) (kvs' : List (Key × V)), σ' = [some (.ref p), some (.int (s : Int)), a, b, c, d] ∧ Chg [N] H H' ∧ Kp H1 H' ∧ KAt K H' p N M G kvs' ∧ IntV kvs' ∧ (∀ t, domK kvs t → domK kvs' t) ∧
      (∀ o, o < j → ∀ q, opt M s o = some q → (q.2 ≠ none ∨ domK kvs q.1) → domK kvs' s) ∧ kvs'.length ≤ kvs.length + j) (fun H1 e1 => ⟨none, none, none, none, kvs, rfl, e1.chg, Kp.refl _, hW.to e1, hI, fun t h => h, fun o ho => absurd ho (Nat.not_lt_zero _), Nat.le_refl _⟩) ?_ ?_ ?_
    · rintro H1 j σ' H' ⟨_, _, _, _, _, _, _, q, _⟩
      exact q
    · rintro H1 j v d0 σ' H2 H3 e1 hd ⟨a, b, c, d, kvs', rfl, c2, k2, hW2, hI2, hmono, hdone, hlen⟩ e3 hv
      rw [List.getElem?_map] at hd
      obtain ⟨q, hq, rfl⟩ := Option.map_eq_some_iff.mp hd
      have hj := (List.getElem?_eq_some_iff.mp hq).1
      have hopt : opt M s j = some q := by
        unfold opt
        rw [hst, Option.bind_some, hq]
      obtain ⟨rs, r, g1, g2, _⟩ := hH.rowAt hopt
      obtain ⟨hqt, hqw⟩ := hH.opt hopt
      refine g_pair2 (b := eN q.1) (c := eW q.2) hv fun x y z hx hy hz => ?_
      have hW3 := hW2.to e3
      refine rd_start' [some (.ref p), some (.int (s : Int)), some x, some y, some z, d] ?_
      refine q_set (Ed.is (ed_lenT (ed_op (ed_op (ed_kTable T ev_v hW3) ed_vi (rd_ix (at_map g1))) (ed_v hx) (rd_ix (at_map g2)))) (show _ = Dt.int (r.length : Nat) by rw [List.length_map])) fun u H4 e4 hu => ?_
      cases hu
      refine rd_start' [some (.ref p), some (.int (s : Int)), some x, some y, some z, some (.int ((r.length : Nat) : Int))] ?_
      have hW4 := hW3.to e4
      have c4 : Chg [N] H H4 := c2.trans (e3.trans e4).chg
      have k4 : Kp H1 H4 := k2.trans (e3.kp.trans e4.kp)
      cases hw : q.2 with
      | some wd =>
        rw [hw] at hz
        refine q_skip (et_B (ed_isN (ed_v hz) (by simp [eW]))) fun H5 e5 => ?_
        refine near_tail T (hW4.to e5) hI2 (by omega) fun H6 kvs6 c6 hW6 hI6 hm6 hd6 hl6 => ⟨_, _, _, _, kvs6, rfl, c4.trans (e5.chg.trans c6), k4.trans (e5.kp.trans c6.kp), hW6, hI6, fun t ht => hm6 t (hmono t ht), fun _ _ _ _ _ => hd6, by omega⟩
      | none =>
        rw [hw] at hz
        refine q_do (et_B (ed_isN (ed_v hz) (by simp [eW]))) fun H5 e5 => ?_
        have hW5 := hW4.to e5
        by_cases hdm : domK kvs' q.1
        · obtain ⟨i, hi⟩ : ∃ i, valV kvs' (.inl (q.1 : Int)) = some (.int i) := by
            cases e : valV kvs' (.inl (q.1 : Int)) with
            | none => exact absurd e hdm
            | some v =>
              obtain ⟨i, rfl⟩ := hI2 _ _ e
              exact ⟨i, rfl⟩
          refine q_skip (et_B (ed_kNin (ev_kNear T ev_v hW5) hW5.near (ed_v hy) (by simp [hdm]))) fun H6 e6 => ?_
          have hW6 := hW5.to e6
          refine st_aug (K := K) rfl (ed_kGet (ev_kNear T ev_v hW6) hW6.near (ed_v hy) hi) fun H7 e7 => ?_
          refine rd_start' [some (.ref p), some (.int (s : Int)), some x, some y, some z, some (.int (((r.length : Nat) : Int) + i))] ?_
          dsimp only
          have c7 : Chg [N] H4 H7 := (e5.trans (e6.trans e7)).chg
          refine near_tail T (hW6.to e7) hI2 (by omega) fun H8 kvs8 c8 hW8 hI8 hm8 hd8 hl8 => ⟨_, _, _, _, kvs8, rfl, c4.trans (c7.trans c8), k4.trans (c7.kp.trans c8.kp), hW8, hI8, fun t ht => hm8 t (hmono t ht), fun _ _ _ _ _ => hd8, by omega⟩
        · refine q_do (et_B (ed_kNin (ev_kNear T ev_v hW5) hW5.near (ed_v hy) (by simp [hdm]))) fun H6 e6 => ?_
          refine ⟨_, _, _, _, kvs', rfl, c4.trans (e5.trans e6).chg, k4.trans (e5.kp.trans e6.kp), hW5.to e6, hI2, hmono, fun o ho q' hq' hk => ?_, by omega⟩
          rcases Nat.lt_succ_iff_lt_or_eq.mp ho with z1 | z1
          · exact hdone o z1 q' hq' hk
          · subst z1
            rw [hopt] at hq'
            cases hq'
            rcases hk with hk | hk
            · exact absurd hw hk
            · exact absurd (hmono _ hk) hdm
    · rintro H1 σ' H2 e1 ⟨a, b, c, d, kvs', rfl, c2, k2, hW2, hI2, hmono, hdone, hlen⟩
      rw [List.length_map] at hdone hlen
      refine hQ H2 kvs' c2 hW2 hI2 hmono (fun o q hq hk => hdone o ?_ q hq hk) (by omega)
      unfold opt at hq
      rw [hst, Option.bind_some] at hq
      exact (List.getElem?_eq_some_iff.mp hq).1
def SpKInit (K : PySem.W.Frag) : Sp := fun vs H Q _ => ∃ (p dx : Addr) (va vb : V) (M : Mach) (G : Tbl) (m : Nat), vs = [.ref p, va, vb] ∧ H p = some (.ins (He.ga K "Walk") dx []) ∧ Im K H va (eM M) ∧ Im K H vb (eT G) ∧ House M G m ∧
  ∀ H' N kvs, Chg [p] H H' → H N = none → KAt K H' p N M G kvs → IntV kvs → (∀ s, Say M s → domK kvs s) → Q .non H'
theorem sc_k_init : FnScope ["self", "machine", "table", "_", "state"] ["self", "machine", "table"] (defScope s_k_init) := ⟨rfl, rfl, rfl, by decide +kernel, rfl, by decide +kernel, by decide +kernel⟩
theorem ok_k_init (T : Txt w K mg base) : Ok P w K mg base 2 ("Walk", some "__init__") ["self", "machine", "table"] (SpKInit K) := by
  obtain ⟨⟨fd_k_bring_near, F_k_bring_near, b_k_bring_near⟩, k_k_bring_near⟩ := ok_k_bring_near (P := P) T
  refine ok_of (k := 1) T.f_k_init sc_k_init (fun vs H Q E h => ?_) (fun _ _ _ _ _ _ us hl => match us, hl with | [_, _, _], _ => rfl) (fun cdv A outer s H vs Q E hr h => ?_)
  · obtain ⟨p, dx, va, vb, M, G, m, rfl, _⟩ := h
    rfl
  · obtain ⟨p, dx, va, vb, M, G, m, rfl, hp, h1, h2, hH, hQ⟩ := h
    refine ⟨_, (pss_cons (ps_fld (pv 0) (pv 1) rfl)
      (pss_cons (ps_fld (pv 0) (pv 2) rfl)
      (pss_cons (ps_fld (pv 0) pe_dnewK rfl)
      (pss_one (ps_for PassesOwn.never rfl (pi_range1 (by rfl) T.g_range (pa_cons (pe_op (r := rAddX K) op_addX (pe_callB (id := "len") (r := rLenX K) call_lenX (by rfl) T.g_len (by decide +kernel) (pa_cons (pv 1) pa_nil)) pe_int) pa_nil)) (pg_name (i := 3) sc_k_init.nd rfl (Or.inl rfl))
        (pss_one (ps_for PassesOwn.never rfl (pi_range1 (by rfl) T.g_range (pa_cons (pe_callB (id := "len") (r := rLenX K) call_lenX (by rfl) T.g_len (by decide +kernel) (pa_cons (pv 1) pa_nil)) pa_nil)) (pg_name (i := 4) sc_k_init.nd rfl (Or.inl rfl))
          (pss_one (ps_expr (pe_meth (pv 0) T.c_Walk T.m_k_bring_near F_k_bring_near (hr.mono (by decide)) b_k_bring_near .nil pass0 (pa_cons (pv 4) pa_nil))))))))))), ?_⟩
    try dsimp only [cxOf, Cx.nox, Cx.wish]
    refine rd_start [some (.ref p), some va, some vb, none, none] ?_
    refine q_kfld T T.n_k_machine (ed_v h1) ev_v hp (by decide) fun v1 H1 c1 g1 p1 => ?_
    refine q_kfld T T.n_k_table (ed_v (h2.to c1.kp)) ev_v p1 (by show 1 < 1000; decide) fun v2 H2 c2 g2 p2 => ?_
    refine q_kfldD T T.n_k_near ev_v p2 (by show 2 < 1000; decide) fun N H3 c3 nN hN p3 => ?_
    have c13 : Chg [p] H H3 := c1.trans (c2.trans c3)
    have nN0 : H N = none := (c1.trans c2).kpl nN
    have hW3 : KAt K H3 p N M G [] := ⟨dx, v1, v2, p3, g1.to (c2.trans c3).kp, g2.to c3.kp, hN⟩
    have hne := hH.ne
    have hfew := hH.few
    have h13 := h1.to c13.kp
    refine st_forR1 (ed_op (ed_lenT (ed_v h13)) ed_int rd_addI) (by rw [List.length_map]; omega) (by rw [List.length_map]; omega) (fun r σ' H' => ∃ (a b : Option V) (kvs : List (Key × V)), σ' = [some (.ref p), some va, some vb, a, b] ∧ Chg [N] H3 H' ∧ KAt K H' p N M G kvs ∧ IntV kvs ∧ (∀ s, SayIn M r s → domK kvs s) ∧ kvs.length ≤ 10 * r) (fun H4 e4 => ⟨none, none, [], rfl, e4.chg, hW3.to e4, fun k v h => (by cases h), fun s h => False.elim h, Nat.le_refl _⟩) ?_ ?_
    · rintro r σ' H4 hr ⟨a, b, kvs, rfl, c4, hW4, hI4, hsay, hlen⟩
      rw [List.length_map] at hr
      refine g_nm [some (.ref p), some va, some vb, some (.int (r : Nat)), b] ?_
      have h14 := h13.to c4.kp
      refine st_forR1 (ed_lenT (ed_v h14)) (by rw [List.length_map]; omega) (by omega) (fun t σ' H' => ∃ (b : Option V) (kvs' : List (Key × V)), σ' = [some (.ref p), some va, some vb, some (.int (r : Nat)), b] ∧ Chg [N] H3 H' ∧ KAt K H' p N M G kvs' ∧ IntV kvs' ∧ (∀ s, domK kvs s → domK kvs' s) ∧ (∀ s, s < t → SayIn M (r + 1) s → domK kvs' s) ∧ kvs'.length ≤ 10 * r + 2 * t) (fun H5 e5 => ⟨b, kvs, rfl, c4.trans e5.chg, hW4.to e5, hI4, fun s h => h, fun s hs => absurd hs (Nat.not_lt_zero _), hlen⟩) ?_ ?_
      · rintro t σ' H5 ht ⟨b, kvs', rfl, c5, hW5, hI5, hmono, hsay5, hlen5⟩
        have ht2 : t < M.length := by
          rw [List.length_map] at ht
          omega
        refine g_nm [some (.ref p), some va, some vb, some (.int (r : Nat)), some (.int (t : Nat))] ?_
        obtain ⟨dx', a', b', k0, _⟩ := id hW5
        refine ⟨.ref p, rfl, p, dx', _, rfl, k0, rfl, .int (t : Nat), rfl, p, N, M, G, kvs', m, t, rfl, hW5, hI5, hH, ht2, by omega, fun H6 kvs6 c6 hW6 hI6 hm6 hcl6 hl6 => ?_⟩
        refine ⟨_, kvs6, rfl, c5.trans c6, hW6, hI6, fun s h => hm6 s (hmono s h), fun s hs hsy => ?_, by omega⟩
        rcases Nat.lt_succ_iff_lt_or_eq.mp hs with z | z
        · exact hm6 s (hsay5 s z hsy)
        · subst z
          obtain ⟨o, q, h5, h6⟩ := hsy
          exact hcl6 o q h5 (h6.imp id fun w => hmono _ (hsay _ w))
      · rintro σ' H5 ⟨b, kvs', rfl, c5, hW5, hI5, hmono, hsay5, hlen5⟩
        have et : ((M.map eSt).length : Int).toNat = M.length := by rw [List.length_map]; omega
        rw [et] at hsay5 hlen5
        refine ⟨_, _, kvs', rfl, c5, hW5, hI5, fun s hs => hsay5 s ?_ hs, by omega⟩
        obtain ⟨o, q, h5, _⟩ := hs
        exact opt_s h5
    · rintro σ' H4 ⟨a, b, kvs, rfl, c4, hW4, hI4, hsay, hlen⟩
      have et : (((M.map eSt).length : Int) + 1).toNat = M.length + 1 := by rw [List.length_map]; omega
      rw [et] at hsay
      refine hQ H4 N kvs (c13.dropNew c4 nN0) nN0 hW4 hI4 fun s ⟨r, hs⟩ => hsay s ?_
      have h2 := say_two hH hs
      have up : ∀ {r s : Nat} (k : Nat), SayIn M r s → SayIn M (r + k) s := fun {r s} k h => by
        induction k with
        | zero => exact h
        | succ k ih => exact sayIn_up ih
      have := up (M.length + 1 - 2) h2
      rwa [show 2 + (M.length + 1 - 2) = M.length + 1 by omega] at this
end
end K29
set_option Elab.async false
set_option linter.all false
set_option maxRecDepth 100000
set_option maxHeartbeats 4000000
/-! the places of a machine: a mark on, choices, whether they part -/
namespace K29
open PySem PySem.Spec PyProof.Rows L2
local macro_rules | `(tactic| walk_at "kp") => `(tactic| first | exact Kp.refl _ | assumption | exact Chg.kp (by assumption) | (refine Kp.trans ?_ (Chg.kp (by assumption)); walk_at "kp"))
local macro_rules | `(tactic| walk_at "ext") => `(tactic| first | exact Ext.refl _ | assumption | (refine Ext.trans ?_ (by assumption); walk_at "ext"))

/-- the answer whether a value is None -/
def SpKN (K : PySem.W.Frag) (TL : List Addr) (R : List Dt → Mach → Tbl → List (Key × V) → Prop → Prop) : Sp := fun vs H Q _ => ∃ (p N : Addr) (rest : List V) (ds : List Dt) (M : Mach) (G : Tbl) (kvs : List (Key × V)) (φ : Prop), vs = .ref p :: rest ∧ ImAll K H rest ds ∧ Tabs TL H ∧ KAt K H p N M G kvs ∧ R ds M G kvs φ ∧ ∀ v H', Ext H H' → (v = .non ↔ φ) → Q v H'
section
variable {K : PySem.W.Frag} {H H0 : Hp} {σ : L2.St} {ta : TE} {p N : Addr} {M : Mach} {G : Tbl} {kvs : List (Key × V)} {E : XK} {TL : List Addr} {tr : TA} {ds : List Dt} {m : Str} {Q : VK} {D : Ends}
theorem r_kCallN {R : List Dt → Mach → Tbl → List (Key × V) → Prop → Prop} {φ : Prop} (h0 : EdV ta σ H (.ref p)) (hW : KAt K H p N M G kvs) (h : EdA K tr σ H ds) (ht : Tabs TL H0) (hk : Kp H0 H) (hr : R ds M G kvs φ) (z : ∀ v H', Ext H H' → (v = .non ↔ φ) → Q v H') (hm : BareK m := by intro _ _ _; rfl) : tMeth (He.ga K "Walk") m (SpKN K TL R) [] E ta tr σ H Q :=
  h0 H (Ext.refl _) _ fun H2 e2 => by
    obtain ⟨dx, a, b, g0, _⟩ := hW.to e2
    exact ⟨p, dx, _, rfl, g0, hm .., h H2 e2 _ fun vs H3 e3 hs => ⟨p, N, vs, ds, M, G, kvs, φ, by rw [List.append_nil], hs, ht.to ((hk.trans e2.kp).trans e3.kp), hW.to (e2.trans e3), hr, fun v H4 e4 hv => z v H4 (e2.trans (e3.trans e4)) hv⟩⟩
theorem ed_kCallN {R : List Dt → Mach → Tbl → List (Key × V) → Prop → Prop} {φ : Prop} {k : Bool} (h0 : EdV ta σ H (.ref p)) (hW : KAt K H p N M G kvs) (h : EdA K tr σ H ds) (ht : Tabs TL H0) (hk : Kp H0 H) (hr : R ds M G kvs φ) (hkk : k = true ↔ ¬ φ) (hm : BareK m := by intro _ _ _; rfl) : Ed K (tNotN (tMeth (He.ga K "Walk") m (SpKN K TL R) [] E ta tr)) σ H (.bl k) := fun H1 e Q z =>
  r_kCallN (Q := fun v H' => Q (.bl (!decide (v = .non))) H') (fun H2 e2 => h0 H2 (e.trans e2)) (hW.to e) (fun H2 e2 => h H2 (e.trans e2)) ht (hk.trans e.kp) hr (fun v H4 e4 hv => by
    have ek : (!decide (v = .non)) = k := by
      rw [Bool.eq_iff_iff, Bool.not_eq_true', decide_eq_false_iff_not, hkk, hv]
    rw [ek]
    exact z _ H4 e4 (.bl k)) hm
end
def mkA (G : Tbl) (p : Pl) : Nat := match p.o with
  | none => 0
  | some o => (rowA G p.s o).getD p.d 0
def stepA (M : Mach) (G : Tbl) (p : Pl) : Pl × Wd := match p.o with
  | none => (p, none)
  | some o => goneA M G p.s o p.d
/-- what a pair leads to -/
def togA (M : Mach) (G : Tbl) (a b : Pl) : Dt := if a.o ≠ none ∧ b.o ≠ none ∧ mkA G a = mkA G b then .tup [.bl true, .tup [ePl (stepA M G a).1, ePl (stepA M G b).1], .tup [eW (stepA M G a).2, eW (stepA M G b).2]] else .tup [.bl false, .non, .non]
def chA (M : Mach) (a b : Pl) : List (Pl × Pl) := (if a.o = none then (List.range (optsA M a.s)).map fun o => ((⟨a.s, some o, 0⟩ : Pl), b) else []) ++ (if b.o = none then (List.range (optsA M b.s)).map fun o => (a, (⟨b.s, some o, 0⟩ : Pl)) else [])
/-- they go on alike, or one is silent for ever -/
def PartOk (M : Mach) (dom : Nat → Prop) (a b : Pl) (u v : Wd) : Prop := u = v ∨ (u = none ∧ v ≠ none ∧ Silent M dom a) ∨ (u ≠ none ∧ v = none ∧ Silent M dom b)
theorem step_plOk {M : Mach} {G : Tbl} {m : Nat} (hH : House M G m) {p : Pl} (h : PlOk M G p) : PlOk M G (stepA M G p).1 ∧ WdOk (stepA M G p).2 := by
  obtain ⟨s, o, d⟩ := p
  cases o with
  | none => exact ⟨h, fun _ z => by cases z⟩
  | some o =>
    obtain ⟨h1, h2, h3⟩ : s < M.length ∧ o < optsA M s ∧ d < (rowA G s o).length := h
    obtain ⟨st, _, _, _, rs, _, _, _, _, g1, g2⟩ := opt_at hH h2
    show PlOk M G (goneA M G s o d).1 ∧ WdOk (goneA M G s o d).2
    unfold goneA
    split
    · exact ⟨⟨h1, h2, by assumption⟩, fun _ z => by cases z⟩
    · exact ⟨⟨g1, rfl⟩, g2⟩
section
variable {P : Program} {w : World} {K : PySem.W.Frag} {mg : Str → Option Value} {base : Heap}
def R_k_next_mark (ds : List Dt) (M : Mach) (G : Tbl) (kvs : List (Key × V)) (d : Dt) : Prop := ∃ (m : Nat) (p : Pl), ds = [ePl p] ∧ House M G m ∧ PlOk M G p ∧ p.o ≠ none ∧ d = eN (mkA G p)
theorem sc_k_next_mark : FnScope ["self", "place"] ["self", "place"] (defScope s_k_next_mark) := ⟨rfl, rfl, rfl, by decide +kernel, rfl, by decide +kernel, by decide +kernel⟩
theorem ok_k_next_mark (T : Txt w K mg base) : Ok P w K mg base 1 ("Walk", some "next_mark") ["self", "place"] (SpKF K (TL K) R_k_next_mark) := by
  refine ok_of (k := 0) T.f_k_next_mark sc_k_next_mark (fun vs H Q E h => ?_) (fun _ _ _ _ _ _ us hl => match us, hl with | [_, _], _ => rfl) (fun cdv A outer s H vs Q E hr h => ?_)
  · obtain ⟨p, N, rest, ds, M, G, kvs, d, rfl, hi, _, _, ⟨m, a, rfl, _⟩, _⟩ := h
    rw [List.length_cons, hi.length]
    rfl
  · obtain ⟨p, N, rest, ds, M, G, kvs, d, rfl, hi, hT, hW, ⟨m, a, rfl, hH, ha, hao, rfl⟩, hQ⟩ := h
    cases hi with | cons h1 hi =>
    cases hi
    refine ⟨_, (pss_one (ps_ret (pe_ix (r := rIx K) ix_seq (pe_ix (r := rIx K) ix_seq (pe_ix (r := rIx K) ix_seq (pe_fldK (K := K) rfl (pv 0) rfl) (pe_ix (r := rIx K) ix_seq (pv 1) pe_int (fun _ _ => rfl)) (fun _ _ => rfl)) (pe_ix (r := rIx K) ix_seq (pv 1) pe_int (fun _ _ => rfl)) (fun _ _ => rfl)) (pe_ix (r := rIx K) ix_seq (pv 1) pe_int (fun _ _ => rfl)) (fun _ _ => rfl)))), ?_⟩
    try dsimp only [cxOf, Cx.nox, Cx.wish]
    obtain ⟨s, o, d⟩ := a
    cases o with
    | none => exact absurd rfl hao
    | some o =>
      obtain ⟨g1, g2, g3⟩ : s < M.length ∧ o < optsA M s ∧ d < (rowA G s o).length := ha
      obtain ⟨st, _, _, _, rs, k1, k2, _⟩ := opt_at hH g2
      exact st_ret (ed_op (ed_op (ed_op (ed_kTable T ev_v hW) (ed_op (ed_v h1) ed_int (rd_ix (by rfl))) (rd_ix (at_map k1))) (ed_op (ed_v h1) ed_int (rd_ix (by rfl))) (rd_ix (at_map k2))) (ed_op (ed_v h1) ed_int (rd_ix (by rfl))) (rd_ix (at_map (getD_at g3)))) hQ
def R_k_gone_on (ds : List Dt) (M : Mach) (G : Tbl) (kvs : List (Key × V)) (d : Dt) : Prop := ∃ (m : Nat) (p : Pl), ds = [ePl p] ∧ House M G m ∧ PlOk M G p ∧ p.o ≠ none ∧ d = .tup [ePl (stepA M G p).1, eW (stepA M G p).2]
theorem sc_k_gone_on : FnScope ["self", "place", "state", "option", "done", "after", "word"] ["self", "place"] (defScope s_k_gone_on) := ⟨rfl, rfl, rfl, by decide +kernel, rfl, by decide +kernel, by decide +kernel⟩
theorem ok_k_gone_on (T : Txt w K mg base) : Ok P w K mg base 1 ("Walk", some "gone_on") ["self", "place"] (SpKF K (TL K) R_k_gone_on) := by
  refine ok_of (k := 0) T.f_k_gone_on sc_k_gone_on (fun vs H Q E h => ?_) (fun _ _ _ _ _ _ us hl => match us, hl with | [_, _], _ => rfl) (fun cdv A outer s H vs Q E hr h => ?_)
  · obtain ⟨p, N, rest, ds, M, G, kvs, d, rfl, hi, _, _, ⟨m, a, rfl, _⟩, _⟩ := h
    rw [List.length_cons, hi.length]
    rfl
  · obtain ⟨p, N, rest, ds, M, G, kvs, d, rfl, hi, hT, hW, ⟨m, a, rfl, hH, ha, hao, rfl⟩, hQ⟩ := h
    cases hi with | cons h1 hi =>
    cases hi
    rename_i vp
    refine ⟨_, (pss_cons (ps_asg (pv 1) (pg_tup rfl (pgs_cons (pg_name (i := 2) sc_k_gone_on.nd rfl (Or.inl rfl)) (pgs_cons (pg_name (i := 3) sc_k_gone_on.nd rfl (Or.inl rfl)) (pgs_cons (pg_name (i := 4) sc_k_gone_on.nd rfl (Or.inl rfl)) pgs_nil)))))
      (pss_cons (ps_if (pt_cmpR op_ltX (pe_op (r := rAddX K) op_addX (pv 4) pe_int) (pe_callB (id := "len") (r := rLenX K) call_lenX (by rfl) T.g_len (by decide +kernel) (pa_cons (pe_ix (r := rIx K) ix_seq (pe_ix (r := rIx K) ix_seq (pe_fldK (K := K) rfl (pv 0) rfl) (pv 2) (fun _ _ => rfl)) (pv 3) (fun _ _ => rfl)) pa_nil)) (nomark _)) (pss_one (ps_ret (pe_tup (pa_cons (pe_tup (pa_cons (pv 2) (pa_cons (pv 3) (pa_cons (pe_op (r := rAddX K) op_addX (pv 4) pe_int) pa_nil)))) (pa_cons pe_non pa_nil))))) pss_nil)
      (pss_cons (ps_asg (pe_ix (r := rIx K) ix_seq (pe_ix (r := rIx K) ix_seq (pe_fldK (K := K) rfl (pv 0) rfl) (pv 2) (fun _ _ => rfl)) (pv 3) (fun _ _ => rfl)) (pg_tup rfl (pgs_cons (pg_name (i := 5) sc_k_gone_on.nd rfl (Or.inl rfl)) (pgs_cons (pg_name (i := 6) sc_k_gone_on.nd rfl (Or.inl rfl)) pgs_nil))))
      (pss_one (ps_ret (pe_tup (pa_cons (pe_tup (pa_cons (pv 5) (pa_cons pe_non (pa_cons pe_int pa_nil)))) (pa_cons (pv 6) pa_nil)))))))), ?_⟩
    try dsimp only [cxOf, Cx.nox, Cx.wish]
    refine rd_start [some (.ref p), some vp, none, none, none, none, none] ?_
    obtain ⟨s, o, d⟩ := a
    cases o with
    | none => exact absurd rfl hao
    | some o =>
      obtain ⟨g1, g2, g3⟩ : s < M.length ∧ o < optsA M s ∧ d < (rowA G s o).length := ha
      obtain ⟨st, k1, k2, _, rs, k3, k4, _⟩ := opt_at hH g2
      refine q_seq ((ed_v h1) H (Ext.refl _) _ fun v H1 e1 hv => g_trip hv fun x y z hx hy hz => ?_)
      refine rd_start' [some (.ref p), some vp, some x, some y, some z, none, none] ?_
      have hx : Im K H1 x (eN s) := hx
      have hy : Im K H1 y (eN o) := hy
      have hz : Im K H1 z (eN d) := hz
      have hW1 := hW.to e1
      have est : stepA M G ⟨s, some o, d⟩ = goneA M G s o d := rfl
      rw [est] at hQ
      unfold goneA at hQ
      refine q_if (k := decide (d + 1 < (rowA G s o).length)) (EdT.is (et_test (ed_op (ed_op (ed_v hz) ed_int rd_addI) (ed_lenT (ed_op (ed_op (ed_kTable T ev_v hW1) (ed_v hx) (rd_ix (at_map k3))) (ed_v hy) (rd_ix (at_map k4)))) rd_lt)) ?_) (fun zz H2 e2 => ?_) fun zz H2 e2 => ?_
      · rw [List.length_map]
        exact decide_eq_decide.mpr (by omega)
      · rw [if_pos (of_decide_eq_true zz)] at hQ
        exact st_ret (K := K) (Ed.is (ed_tup (ea_cons (ed_tup (ea_cons (ed_v hx) (ea_cons (ed_v hy) (ea_cons (ed_op (ed_v hz) ed_int rd_addI) ea_nil))) (by simp)) (ea_cons ed_non ea_nil)) (by simp)) (by rfl)) fun v H3 e3 hv => hQ v H3 (e1.trans (e2.trans e3)) hv
      · rw [if_neg (of_decide_eq_false zz)] at hQ
        have hW2 := hW1.to e2
        dsimp only [tNext]
        refine q_seq ((ed_op (ed_op (ed_kMachine T ev_v hW2) (ed_v hx) (rd_ix (at_map k1))) (ed_v hy) (rd_ix (at_map k2))) H2 (Ext.refl _) _ fun v H3 e3 hv => g_pair hv fun x2 y2 hx2 hy2 => ?_)
        refine rd_start' [some (.ref p), some vp, some x, some y, some z, some x2, some y2] ?_
        exact st_ret (K := K) (Ed.is (ed_tup (ea_cons (ed_tup (ea_cons (ed_v hx2) (ea_cons ed_non (ea_cons ed_int ea_nil))) (by simp)) (ea_cons (ed_v hy2) ea_nil)) (by simp)) (by rfl)) fun v H4 e4 hv => hQ v H4 (e1.trans (e2.trans (e3.trans e4))) hv
def R_k_choices (ds : List Dt) (M : Mach) (G : Tbl) (kvs : List (Key × V)) (es : List Dt) : Prop := ∃ (m : Nat) (p : Pl), ds = [ePl p] ∧ House M G m ∧ PlOk M G p ∧ es = (List.range (optsA M p.s)).map fun o => ePl ⟨p.s, some o, 0⟩
theorem optsA_le {M : Mach} {G : Tbl} {m : Nat} (hH : House M G m) {s : Nat} (hs : s < M.length) : ∃ st, M[s]? = some st ∧ optsA M s = st.length ∧ optsA M s ≤ 2 := by
  have h := List.getElem?_eq_getElem hs
  have e : optsA M s = M[s].length := by
    unfold optsA
    rw [h]
    rfl
  exact ⟨M[s], h, e, by rw [e]; exact hH.st _ (List.getElem_mem hs)⟩
theorem sc_k_choices : FnScope ["self", "place", "option"] ["self", "place"] (defScope s_k_choices) := ⟨rfl, rfl, rfl, by decide +kernel, rfl, by decide +kernel, by decide +kernel⟩
theorem ok_k_choices (T : Txt w K mg base) : Ok P w K mg base 1 ("Walk", some "choices") ["self", "place"] (SpKG K (TL K) R_k_choices) := by
  refine ok_of (k := 0) T.f_k_choices sc_k_choices (fun vs H Q E h => ?_) (fun _ _ _ _ _ _ us hl => match us, hl with | [_, _], _ => rfl) (fun cdv A outer s H vs Q E hr h => ?_)
  · obtain ⟨p, N, rest, ds, M, G, kvs, d, rfl, hi, _, _, ⟨m, a, rfl, _⟩, _⟩ := h
    rw [List.length_cons, hi.length]
    rfl
  · obtain ⟨p, N, rest, ds, M, G, kvs, es, rfl, hi, hT, hW, ⟨m, a, rfl, hH, ha, rfl⟩, hQ⟩ := h
    cases hi with | cons h1 hi =>
    cases hi
    rename_i vp
    refine ⟨_, (pss_one (ps_ret (pe_lc (own := [("option", 2)]) rfl sc_k_choices.nd (pi_range1 (by rfl) T.g_range (pa_cons (pe_callB (id := "len") (r := rLenX K) call_lenX (by rfl) T.g_len (by decide +kernel) (pa_cons (pe_ix (r := rIx K) ix_seq (pe_fldK (K := K) rfl (pv 0) rfl) (pe_ix (r := rIx K) ix_seq (pv 1) pe_int (fun _ _ => rfl)) (fun _ _ => rfl)) pa_nil)) pa_nil)) (blkOk_by (N := ["self", "place", "option"]) (sc := defScope s_k_choices) (by decide +kernel)) (fun _ _ _ _ _ => (pg_name (i := 2) sc_k_choices.nd rfl (Or.inl rfl))) (fun _ _ _ _ _ => pts_nil) (fun _ _ _ _ _ => (pe_tup (pa_cons (pe_ix (r := rIx K) ix_seq (pv 1) pe_int (fun _ _ => rfl)) (pa_cons (pv 2) (pa_cons pe_int pa_nil)))))))), ?_⟩
    try dsimp only [cxOf, Cx.nox, Cx.wish]
    refine rd_start [some (.ref p), some vp, none] ?_
    obtain ⟨s, o, d⟩ := a
    have hs : s < M.length := ha.1
    obtain ⟨st, k1, k2, k3⟩ := optsA_le hH hs
    refine st_retN (en_lcR (n := optsA M s) (Ed.is (ed_lenT (ed_op (ed_kMachine T ev_v hW) (ed_op (ed_v h1) ed_int (rd_ix (by rfl))) (rd_ix (at_map k1)))) (by rw [List.length_map, k2])) (by omega) gm_name (fun j => (List.range j).map fun o => ePl ⟨s, some o, 0⟩) rfl (fun j hj => by rw [List.length_map, List.length_range]; omega) fun j H6 e6 hj => lc_each rfl (by rw [List.range_succ, List.map_append]; rfl) (Ed.is (ed_tup (ea_cons (ed_op (ed_v h1) ed_int (rd_ix (by rfl))) (ea_cons ed_vi (ea_cons ed_int ea_nil))) (by simp)) (by rfl))) hQ
def R_k_chosen (ds : List Dt) (M : Mach) (G : Tbl) (kvs : List (Key × V)) (es : List Dt) : Prop := ∃ (m : Nat) (a b : Pl), ds = [ePr (a, b)] ∧ House M G m ∧ PlOk M G a ∧ PlOk M G b ∧ es = (chA M a b).map ePr
theorem sc_k_chosen : FnScope ["self", "pair", "one", "other", "found", "place"] ["self", "pair"] (defScope s_k_chosen) := ⟨rfl, rfl, rfl, by decide +kernel, rfl, by decide +kernel, by decide +kernel⟩
theorem ok_k_chosen (T : Txt w K mg base) : Ok P w K mg base 2 ("Walk", some "chosen") ["self", "pair"] (SpKG K (TL K) R_k_chosen) := by
  obtain ⟨⟨fd_k_choices, F_k_choices, b_k_choices⟩, k_k_choices⟩ := ok_k_choices (P := P) T
  refine ok_of (k := 1) T.f_k_chosen sc_k_chosen (fun vs H Q E h => ?_) (fun _ _ _ _ _ _ us hl => match us, hl with | [_, _], _ => rfl) (fun cdv A outer s H vs Q E hr h => ?_)
  · obtain ⟨p, N, rest, ds, M, G, kvs, d, rfl, hi, _, _, ⟨m, a, b, rfl, _⟩, _⟩ := h
    rw [List.length_cons, hi.length]
    rfl
  · obtain ⟨p, N, rest, ds, M, G, kvs, es, rfl, hi, hT, hW, ⟨m, a, b, rfl, hH, ha, hb, rfl⟩, hQ⟩ := h
    cases hi with | cons h1 hi =>
    cases hi
    rename_i vp
    refine ⟨_, (pss_cons (ps_asg (pv 1) (pg_tup rfl (pgs_cons (pg_name (i := 2) sc_k_chosen.nd rfl (Or.inr rfl)) (pgs_cons (pg_name (i := 3) sc_k_chosen.nd rfl (Or.inr rfl)) pgs_nil))))
      (pss_cons (ps_set (i := 4) sc_k_chosen.nd rfl (Or.inl rfl) (pe_lst pa_nil))
      (pss_cons (ps_if (pt_cmp (pc_isN (pe_ix (r := rIx K) ix_seq (pv 2) pe_int (fun _ _ => rfl)))) (pss_one (ps_aug (i := 4) sc_k_chosen.nd rfl (Or.inl rfl) (pe_lc (own := [("place", 5)]) rfl sc_k_chosen.nd (pi_list (pe_meth (pv 0) T.c_Walk T.m_k_choices F_k_choices (hr.mono (by decide)) b_k_choices .nil pass0 (pa_cons (pv 2) pa_nil))) (blkOk_by (N := ["self", "pair", "one", "other", "found", "place"]) (sc := defScope s_k_chosen) (by decide +kernel)) (fun _ _ _ _ _ => (pg_name (i := 5) sc_k_chosen.nd rfl (Or.inl rfl))) (fun _ _ _ _ _ => pts_nil) (fun _ _ _ _ _ => (pe_tup (pa_cons (pv 5) (pa_cons (pv 3) pa_nil))))) iop_ext)) pss_nil)
      (pss_cons (ps_if (pt_cmp (pc_isN (pe_ix (r := rIx K) ix_seq (pv 3) pe_int (fun _ _ => rfl)))) (pss_one (ps_aug (i := 4) sc_k_chosen.nd rfl (Or.inl rfl) (pe_lc (own := [("place", 5)]) rfl sc_k_chosen.nd (pi_list (pe_meth (pv 0) T.c_Walk T.m_k_choices F_k_choices (hr.mono (by decide)) b_k_choices .nil pass0 (pa_cons (pv 3) pa_nil))) (blkOk_by (N := ["self", "pair", "one", "other", "found", "place"]) (sc := defScope s_k_chosen) (by decide +kernel)) (fun _ _ _ _ _ => (pg_name (i := 5) sc_k_chosen.nd rfl (Or.inl rfl))) (fun _ _ _ _ _ => pts_nil) (fun _ _ _ _ _ => (pe_tup (pa_cons (pv 2) (pa_cons (pv 5) pa_nil))))) iop_ext)) pss_nil)
      (pss_one (ps_ret (pv 4))))))), ?_⟩
    try dsimp only [cxOf, Cx.nox, Cx.wish]
    refine rd_start [some (.ref p), some vp, none, none, none, none] ?_
    refine q_seq ((ed_v h1) H (Ext.refl _) _ fun v H1 e1 hv => g_pair hv fun x y hx hy => ?_)
    have hx : Im K H1 x (ePl a) := hx
    have hy : Im K H1 y (ePl b) := hy
    refine rd_start' [some (.ref p), some vp, some x, some y, none, none] ?_
    refine q_setN (K := K) (en_lst ea_nil (by simp)) fun f H2 e2 nf hf => ?_
    refine rd_start' [some (.ref p), some vp, some x, some y, some (.ref f), none] ?_
    obtain ⟨_, ka1, ka2, ka3⟩ := optsA_le hH ha.1
    obtain ⟨_, kb1, kb2, kb3⟩ := optsA_le hH hb.1
    have nfH : H f = none := e1.free nf
    have two : ∀ H3 (ds1 : List (Pl × Pl)), Ext H H3 → Kp H1 H3 → LsM K H3 f (ds1.map ePr) → ds1.length ≤ 2 → chA M a b = ds1 ++ (if b.o = none then (List.range (optsA M b.s)).map fun o => (a, (⟨b.s, some o, 0⟩ : Pl)) else []) →
        tSeq (tIfS (tB (tIsN (tOp (rIx K) (tVar 3) (tC (V.int 1))))) (tAug 4 (tLc (iList K (tMeth (He.ga K "Walk") "choices" (SpKG K (TL K) R_k_choices) [] E0 (tVar 0) (tCons (tVar 3) tNil))) (gName 5) tYes (tTup (tCons (tVar 2) (tCons (tVar 5) tNil))) [5]) rExt2) tNext) (tRet (tVar 4)) { nx := fun _ H' => Q .non H', rt := Q } [some (.ref p), some vp, some x, some y, some (.ref f), none] H3 := by
      intro H3 ds1 e3 kk3 hf3 hl3 hc
      have fin : ∀ H7, Ext H H7 → LsM K H7 f ((chA M a b).map ePr) → tRet (tVar 4) { nx := fun _ H' => Q .non H', rt := Q } [some (.ref p), some vp, some x, some y, some (.ref f), none] H7 := fun H7 e7 hl7 => ⟨.ref f, rfl, hQ f H7 e7 nfH hl7⟩
      have hx3 : Im K H3 x (ePl a) := hx.to kk3
      have hy3 : Im K H3 y (ePl b) := hy.to kk3
      by_cases hbo : b.o = none
      · refine q_do (et_B (ed_isN (a := eK b.o) (k := true) (ed_op (ed_v hy3) ed_int (rd_ix (by rfl))) (by rw [hbo]; simp [eK]))) fun H4 e4 => ?_
        have hcomp : EdN K (tLc (iList K (tMeth (He.ga K "Walk") "choices" (SpKG K (TL K) R_k_choices) [] E0 (tVar 0) (tCons (tVar 3) tNil))) (gName 5) tYes (tTup (tCons (tVar 2) (tCons (tVar 5) tNil))) [5]) [some (.ref p), some vp, some x, some y, some (.ref f), none] H4 (((List.range (optsA M b.s)).map fun o => (a, (⟨b.s, some o, 0⟩ : Pl))).map ePr) := by
          have ee : (fun j => (((List.range (optsA M b.s)).take j).map fun o => ePr (a, (⟨b.s, some o, 0⟩ : Pl)))) ((List.range (optsA M b.s)).map fun o => ePl ⟨b.s, some o, 0⟩).length = ((List.range (optsA M b.s)).map fun o => (a, (⟨b.s, some o, 0⟩ : Pl))).map ePr := by
            show ((List.range (optsA M b.s)).take ((List.range (optsA M b.s)).map fun o => ePl ⟨b.s, some o, 0⟩).length).map _ = _
            rw [List.length_map, List.take_length, List.map_map]
            rfl
          rw [← ee]
          refine en_lcL (en_kCall ev_v (hW.to (e3.trans e4)) (ea_cons (ed_v hy3) ea_nil) hT (by exact (e3.trans e4).kp) ⟨m, b, rfl, hH, hb, rfl⟩).l gm_name (fun j => ((List.range (optsA M b.s)).take j).map fun o => ePr (a, (⟨b.s, some o, 0⟩ : Pl))) rfl (fun j hj => ?_) fun j v d H' e5 hd hv => ?_
          · rw [List.length_map, List.length_take, List.length_range]
            omega
          · rw [List.getElem?_map] at hd
            obtain ⟨o, ho, rfl⟩ := Option.map_eq_some_iff.mp hd
            exact lc_each rfl (take_map (f := fun o => ePr (a, (⟨b.s, some o, 0⟩ : Pl))) ho) (ed_tup (ea_cons (ed_v hx3) (ea_cons (ed_v hv) ea_nil)) (by simp))
        refine st_ext (hf3.to e4) rfl hcomp (by rw [List.length_map, List.length_map, List.length_map, List.length_range]; omega) fun H5 c5 hf5 => ?_
        refine rd_start' [some (.ref p), some vp, some x, some y, some (.ref f), none] ?_
        dsimp only
        refine fin H5 (((e3.trans e4).chg.trans c5).new nfH) ?_
        rw [hc, if_pos hbo, List.map_append]
        exact hf5
      · refine q_skip (et_B (ed_isN (a := eK b.o) (k := false) (ed_op (ed_v hy3) ed_int (rd_ix (by rfl))) (by cases hz : b.o with | none => exact absurd hz hbo | some x => simp [eK, eN]))) fun H4 e4 => fin H4 (e3.trans e4) ?_
        rw [hc, if_neg hbo, List.append_nil]
        exact hf3.to e4
    have hx2 := hx.to e2.kp
    have hy2 := hy.to e2.kp
    by_cases hao : a.o = none
    · refine q_do (et_B (ed_isN (a := eK a.o) (k := true) (ed_op (ed_v hx2) ed_int (rd_ix (by rfl))) (by rw [hao]; simp [eK]))) fun H4 e4 => ?_
      have hcomp : EdN K (tLc (iList K (tMeth (He.ga K "Walk") "choices" (SpKG K (TL K) R_k_choices) [] E0 (tVar 0) (tCons (tVar 2) tNil))) (gName 5) tYes (tTup (tCons (tVar 5) (tCons (tVar 3) tNil))) [5]) [some (.ref p), some vp, some x, some y, some (.ref f), none] H4 (((List.range (optsA M a.s)).map fun o => ((⟨a.s, some o, 0⟩ : Pl), b)).map ePr) := by
        have ee : (fun j => (((List.range (optsA M a.s)).take j).map fun o => ePr ((⟨a.s, some o, 0⟩ : Pl), b))) ((List.range (optsA M a.s)).map fun o => ePl ⟨a.s, some o, 0⟩).length = ((List.range (optsA M a.s)).map fun o => ((⟨a.s, some o, 0⟩ : Pl), b)).map ePr := by
          show ((List.range (optsA M a.s)).take ((List.range (optsA M a.s)).map fun o => ePl ⟨a.s, some o, 0⟩).length).map _ = _
          rw [List.length_map, List.take_length, List.map_map]
          rfl
        rw [← ee]
        refine en_lcL (en_kCall ev_v (hW.to (e1.trans (e2.trans e4))) (ea_cons (ed_v hx2) ea_nil) hT (by exact (e1.trans (e2.trans e4)).kp) ⟨m, a, rfl, hH, ha, rfl⟩).l gm_name (fun j => ((List.range (optsA M a.s)).take j).map fun o => ePr ((⟨a.s, some o, 0⟩ : Pl), b)) rfl (fun j hj => ?_) fun j v d H' e5 hd hv => ?_
        · rw [List.length_map, List.length_take, List.length_range]
          omega
        · rw [List.getElem?_map] at hd
          obtain ⟨o, ho, rfl⟩ := Option.map_eq_some_iff.mp hd
          exact lc_each rfl (take_map (f := fun o => ePr ((⟨a.s, some o, 0⟩ : Pl), b)) ho) (ed_tup (ea_cons (ed_v hv) (ea_cons (ed_v hy2) ea_nil)) (by simp))
      refine st_ext (hf.to e4) rfl hcomp (by rw [List.length_map, List.length_map, List.length_range]; simp; omega) fun H5 c5 hf5 => ?_
      refine two H5 ((List.range (optsA M a.s)).map fun o => ((⟨a.s, some o, 0⟩ : Pl), b)) (((e1.trans (e2.trans e4)).chg.trans c5).new nfH) (e2.kp.trans (e4.kp.trans c5.kp)) hf5 (by rw [List.length_map, List.length_range]; exact ka3) ?_
      unfold chA
      rw [if_pos hao]
    · refine q_skip (et_B (ed_isN (a := eK a.o) (k := false) (ed_op (ed_v hx2) ed_int (rd_ix (by rfl))) (by cases hz : a.o with | none => exact absurd hz hao | some x => simp [eK, eN]))) fun H4 e4 => ?_
      refine two H4 [] (e1.trans (e2.trans e4)) (e2.kp.trans e4.kp) (hf.to e4) (by simp) ?_
      unfold chA
      rw [if_neg hao]
end
end K29
set_option Elab.async false
set_option linter.all false
set_option maxRecDepth 100000
set_option maxHeartbeats 4000000
/-! the places of a machine: together, parting -/
namespace K29
open PySem PySem.Spec PyProof.Rows L2
local macro_rules | `(tactic| walk_at "kp") => `(tactic| first | exact Kp.refl _ | assumption | exact Chg.kp (by assumption) | (refine Kp.trans ?_ (Chg.kp (by assumption)); walk_at "kp"))
local macro_rules | `(tactic| walk_at "ext") => `(tactic| first | exact Ext.refl _ | assumption | (refine Ext.trans ?_ (by assumption); walk_at "ext"))

section
variable {P : Program} {w : World} {K : PySem.W.Frag} {mg : Str → Option Value} {base : Heap}
def R_k_together (ds : List Dt) (M : Mach) (G : Tbl) (kvs : List (Key × V)) (d : Dt) : Prop := ∃ (m : Nat) (a b : Pl), ds = [ePr (a, b)] ∧ House M G m ∧ PlOk M G a ∧ PlOk M G b ∧ d = togA M G a b
theorem isK {o : Option Nat} : eK o = .non ↔ o = none := by cases o <;> simp [eK, eN]
theorem sc_k_together : FnScope ["self", "pair", "one", "other", "mine", "theirs"] ["self", "pair"] (defScope s_k_together) := ⟨rfl, rfl, rfl, by decide +kernel, rfl, by decide +kernel, by decide +kernel⟩
theorem ok_k_together (T : Txt w K mg base) : Ok P w K mg base 2 ("Walk", some "together") ["self", "pair"] (SpKF K (TL K) R_k_together) := by
  obtain ⟨⟨fd_k_next_mark, F_k_next_mark, b_k_next_mark⟩, k_k_next_mark⟩ := ok_k_next_mark (P := P) T
  obtain ⟨⟨fd_k_gone_on, F_k_gone_on, b_k_gone_on⟩, k_k_gone_on⟩ := ok_k_gone_on (P := P) T
  refine ok_of (k := 1) T.f_k_together sc_k_together (fun vs H Q E h => ?_) (fun _ _ _ _ _ _ us hl => match us, hl with | [_, _], _ => rfl) (fun cdv A outer s H vs Q E hr h => ?_)
  · obtain ⟨p, N, rest, ds, M, G, kvs, d, rfl, hi, _, _, ⟨m, a, b, rfl, _⟩, _⟩ := h
    rw [List.length_cons, hi.length]
    rfl
  · obtain ⟨p, N, rest, ds, M, G, kvs, d, rfl, hi, hT, hW, ⟨m, a, b, rfl, hH, ha, hb, rfl⟩, hQ⟩ := h
    cases hi with | cons h1 hi =>
    cases hi
    rename_i vp
    refine ⟨_, (pss_cons (ps_asg (pv 1) (pg_tup rfl (pgs_cons (pg_name (i := 2) sc_k_together.nd rfl (Or.inl rfl)) (pgs_cons (pg_name (i := 3) sc_k_together.nd rfl (Or.inl rfl)) pgs_nil))))
      (pss_cons (ps_if (PW.pt (pw_or (pt_cmp (pc_isN (pe_ix (r := rIx K) ix_seq (pv 2) pe_int (fun _ _ => rfl)))) (pw_or (pt_cmp (pc_isN (pe_ix (r := rIx K) ix_seq (pv 3) pe_int (fun _ _ => rfl)))) (pw_or1 (pt_cmpR (r := rNeD K) (op_neD hr.units) (pe_meth (pv 0) T.c_Walk T.m_k_next_mark F_k_next_mark (hr.mono (by decide)) b_k_next_mark .nil pass0 (pa_cons (pv 2) pa_nil)) (pe_meth (pv 0) T.c_Walk T.m_k_next_mark F_k_next_mark (hr.mono (by decide)) b_k_next_mark .nil pass0 (pa_cons (pv 3) pa_nil)) (nomark _)))))) (pss_one (ps_ret (pe_tup (pa_cons pe_bl (pa_cons pe_non (pa_cons pe_non pa_nil)))))) pss_nil)
      (pss_cons (ps_par (i := 4) (j := 5) (by rfl) sc_k_together.nd rfl rfl (by decide) rfl rfl (pa_cons (pe_meth (pv 0) T.c_Walk T.m_k_gone_on F_k_gone_on (hr.mono (by decide)) b_k_gone_on .nil pass0 (pa_cons (pv 2) pa_nil)) (pa_cons (pe_meth (pv 0) T.c_Walk T.m_k_gone_on F_k_gone_on (hr.mono (by decide)) b_k_gone_on .nil pass0 (pa_cons (pv 3) pa_nil)) pa_nil)) (by rfl))
      (pss_one (ps_ret (pe_tup (pa_cons pe_bl (pa_cons (pe_tup (pa_cons (pe_ix (r := rIx K) ix_seq (pv 4) pe_int (fun _ _ => rfl)) (pa_cons (pe_ix (r := rIx K) ix_seq (pv 5) pe_int (fun _ _ => rfl)) pa_nil))) (pa_cons (pe_tup (pa_cons (pe_ix (r := rIx K) ix_seq (pv 4) pe_int (fun _ _ => rfl)) (pa_cons (pe_ix (r := rIx K) ix_seq (pv 5) pe_int (fun _ _ => rfl)) pa_nil))) pa_nil))))))))), ?_⟩
    try dsimp only [cxOf, Cx.nox, Cx.wish]
    refine rd_start [some (.ref p), some vp, none, none, none, none] ?_
    refine q_seq ((ed_v h1) H (Ext.refl _) _ fun v H1 e1 hv => g_pair hv fun x y hx hy => ?_)
    have hx : Im K H1 x (ePl a) := hx
    have hy : Im K H1 y (ePl b) := hy
    refine rd_start' [some (.ref p), some vp, some x, some y, none, none] ?_
    have hW1 := hW.to e1
    have hk : (decide (a.o = none) || (decide (b.o = none) || decide (mkA G a ≠ mkA G b))) = !decide (a.o ≠ none ∧ b.o ≠ none ∧ mkA G a = mkA G b) := by
      by_cases z1 : a.o = none <;> by_cases z2 : b.o = none <;> by_cases z3 : mkA G a = mkA G b <;> simp [z1, z2, z3]
    refine q_if (k := !decide (a.o ≠ none ∧ b.o ≠ none ∧ mkA G a = mkA G b)) (EdT.is (et_or (et_B (ed_isN (a := eK a.o) (ed_op (ed_v hx) ed_int (rd_ix (by rfl))) (by rw [decide_eq_true_iff]; exact isK.symm))) fun z1 => et_or (et_B (ed_isN (a := eK b.o) (ed_op (ed_v hy) ed_int (rd_ix (by rfl))) (by rw [decide_eq_true_iff]; exact isK.symm))) fun z2 =>
      et_test (Ed.is (ed_op (ed_kCall ev_v hW1 (ea_cons (ed_v hx) ea_nil) hT (by walk_at "kp") ⟨m, a, rfl, hH, ha, of_decide_eq_false z1, rfl⟩) (ed_kCall ev_v hW1 (ea_cons (ed_v hy) ea_nil) hT (by walk_at "kp") ⟨m, b, rfl, hH, hb, of_decide_eq_false z2, rfl⟩) rd_neI) (show Dt.bl (decide (((mkA G a : Nat) : Int) ≠ ((mkA G b : Nat) : Int))) = .bl (decide (mkA G a ≠ mkA G b)) from congrArg Dt.bl (decide_eq_decide.mpr (not_congr Int.ofNat_inj))))) hk) (fun z H2 e2 => ?_) fun z H2 e2 => ?_
    · have z2 : ¬ (a.o ≠ none ∧ b.o ≠ none ∧ mkA G a = mkA G b) := of_decide_eq_false ((Bool.not_eq_true' _).mp z)
      unfold togA at hQ
      rw [if_neg z2] at hQ
      exact st_ret (K := K) (ed_tup (ea_cons ed_bl (ea_cons ed_non (ea_cons ed_non ea_nil))) (by simp)) fun v H3 e3 hv => hQ v H3 (e1.trans (e2.trans e3)) hv
    · have z2 : a.o ≠ none ∧ b.o ≠ none ∧ mkA G a = mkA G b := of_decide_eq_true ((Bool.not_eq_false' _).mp z)
      unfold togA at hQ
      rw [if_pos z2] at hQ
      have hW2 := hW1.to e2
      dsimp only [tNext]
      refine q_seq (st_par (ed_kCall ev_v hW2 (ea_cons (ed_v hx) ea_nil) hT (by walk_at "kp") ⟨m, a, rfl, hH, ha, z2.1, rfl⟩) (ed_kCall ev_v hW2 (ea_cons (ed_v hy) ea_nil) hT (by walk_at "kp") ⟨m, b, rfl, hH, hb, z2.2.1, rfl⟩) fun u u' H3 e3 hu hu' => ?_)
      refine rd_start' [some (.ref p), some vp, some x, some y, some u, some u'] ?_
      dsimp only
      exact st_ret (K := K) (ed_tup (ea_cons ed_bl (ea_cons (ed_tup (ea_cons (ed_op (ed_v hu) ed_int (rd_ix (by rfl))) (ea_cons (ed_op (ed_v hu') ed_int (rd_ix (by rfl))) ea_nil)) (by simp)) (ea_cons (ed_tup (ea_cons (ed_op (ed_v hu) ed_int (rd_ix (by rfl))) (ea_cons (ed_op (ed_v hu') ed_int (rd_ix (by rfl))) ea_nil)) (by simp)) ea_nil))) (by simp)) fun v H4 e4 hv => hQ v H4 (e1.trans (e2.trans (e3.trans e4))) hv
def R_k_marks_to_word (ds : List Dt) (M : Mach) (G : Tbl) (kvs : List (Key × V)) (φ : Prop) : Prop := ∃ (m : Nat) (a : Pl), ds = [ePl a] ∧ House M G m ∧ PlOk M G a ∧ IntV kvs ∧ φ = Silent M (domK kvs) a
theorem sc_k_marks_to_word : FnScope ["self", "place", "state", "option", "done", "left", "after", "word"] ["self", "place"] (defScope s_k_marks_to_word) := ⟨rfl, rfl, rfl, by decide +kernel, rfl, by decide +kernel, by decide +kernel⟩
theorem ok_k_marks_to_word (T : Txt w K mg base) : Ok P w K mg base 1 ("Walk", some "marks_to_word") ["self", "place"] (SpKN K (TL K) R_k_marks_to_word) := by
  refine ok_of (k := 0) T.f_k_marks_to_word sc_k_marks_to_word (fun vs H Q E h => ?_) (fun _ _ _ _ _ _ us hl => match us, hl with | [_, _], _ => rfl) (fun cdv A outer s H vs Q E hr h => ?_)
  · obtain ⟨p, N, rest, ds, M, G, kvs, φ, rfl, hi, _, _, ⟨m, a, rfl, _⟩, _⟩ := h
    rw [List.length_cons, hi.length]
    rfl
  · obtain ⟨p, N, rest, ds, M, G, kvs, φ, rfl, hi, hT, hW, ⟨m, a, rfl, hH, ha, hI, rfl⟩, hQ⟩ := h
    cases hi with | cons h1 hi =>
    cases hi
    rename_i vp
    refine ⟨_, (pss_cons (ps_asg (pv 1) (pg_tup rfl (pgs_cons (pg_name (i := 2) sc_k_marks_to_word.nd rfl (Or.inl rfl)) (pgs_cons (pg_name (i := 3) sc_k_marks_to_word.nd rfl (Or.inl rfl)) (pgs_cons (pg_name (i := 4) sc_k_marks_to_word.nd rfl (Or.inl rfl)) pgs_nil)))))
      (pss_cons (ps_if (pt_cmp (pc_isN (pv 3))) (pss_one (ps_ret (pe_dget1 (hu_of hr) (pe_fldK (K := K) rfl (pv 0) rfl) (pv 2) ⟨by rfl, by rfl, by rfl, by rfl⟩))) pss_nil)
      (pss_cons (ps_set (i := 5) sc_k_marks_to_word.nd rfl (Or.inl rfl) (pe_op op_subX (pe_callB (id := "len") (r := rLenX K) call_lenX (by rfl) T.g_len (by decide +kernel) (pa_cons (pe_ix (r := rIx K) ix_seq (pe_ix (r := rIx K) ix_seq (pe_fldK (K := K) rfl (pv 0) rfl) (pv 2) (fun _ _ => rfl)) (pv 3) (fun _ _ => rfl)) pa_nil)) (pv 4)))
      (pss_cons (ps_asg (pe_ix (r := rIx K) ix_seq (pe_ix (r := rIx K) ix_seq (pe_fldK (K := K) rfl (pv 0) rfl) (pv 2) (fun _ _ => rfl)) (pv 3) (fun _ _ => rfl)) (pg_tup rfl (pgs_cons (pg_name (i := 6) sc_k_marks_to_word.nd rfl (Or.inl rfl)) (pgs_cons (pg_name (i := 7) sc_k_marks_to_word.nd rfl (Or.inl rfl)) pgs_nil))))
      (pss_cons (ps_if (pt_cmp (pc_notN (pv 7))) (pss_one (ps_ret (pv 5))) pss_nil)
      (pss_one (ps_ret (pe_ifExp (pt_cmp (pc_dnotin (hu_of hr) (pv 6) (pe_fldK (K := K) rfl (pv 0) rfl))) pe_non (pe_op (r := rAddX K) op_addX (pv 5) (pe_dget (hu_of hr) (pe_fldK (K := K) rfl (pv 0) rfl) (pv 6) (fun _ _ => rfl))))))))))), ?_⟩
    try dsimp only [cxOf, Cx.nox, Cx.wish]
    refine rd_start [some (.ref p), some vp, none, none, none, none, none, none] ?_
    obtain ⟨s, o, d⟩ := a
    refine q_seq ((ed_v h1) H (Ext.refl _) _ fun v H1 e1 hv => g_trip hv fun x y z hx hy hz => ?_)
    have hx : Im K H1 x (eN s) := hx
    have hy : Im K H1 y (eK o) := hy
    have hz : Im K H1 z (eN d) := hz
    refine rd_start' [some (.ref p), some vp, some x, some y, some z, none, none, none] ?_
    have hW1 := hW.to e1
    cases o with
    | none =>
      refine q_if (k := true) (et_B (ed_isN (ed_v hy) (by simp [eK]))) (fun _ H2 e2 => ?_) fun zz => by cases zz
      have hW2 := hW1.to e2
      cases hv2 : valV kvs (.inl (s : Int)) with
      | none =>
        refine st_ret (K := K) (d := .non) (ed_kGet1 (ev_kNear T ev_v hW2) hW2.near (ed_v hx) (fun H => by rw [hv2]; exact .non)) fun v H3 e3 hv => hQ v H3 (e1.trans (e2.trans e3)) ?_
        cases hv
        exact ⟨fun _ zz => zz hv2, fun _ => rfl⟩
      | some u =>
        obtain ⟨i, rfl⟩ := hI _ _ hv2
        refine st_ret (K := K) (d := .int i) (ed_kGet1 (ev_kNear T ev_v hW2) hW2.near (ed_v hx) (fun H => by rw [hv2]; exact .int i)) fun v H3 e3 hv => hQ v H3 (e1.trans (e2.trans e3)) ?_
        cases hv
        refine ⟨fun zz => (by cases zz), fun zz => absurd ?_ zz⟩
        show domK kvs s
        unfold domK
        rw [hv2]
        simp
    | some o =>
      have hy : Im K H1 y (eN o) := hy
      obtain ⟨g1, g2, g3⟩ : s < M.length ∧ o < optsA M s ∧ d < (rowA G s o).length := ha
      obtain ⟨st, k1, k2, _, rs, k3, k4, _⟩ := opt_at hH g2
      refine q_if (k := false) (et_B (ed_isN (ed_v hy) (by simp [eN]))) (fun zz => by cases zz) fun _ H2 e2 => ?_
      have hW2 := hW1.to e2
      dsimp only [tNext]
      refine q_set (Ed.is (ed_op (ed_lenT (ed_op (ed_op (ed_kTable T ev_v hW2) (ed_v hx) (rd_ix (at_map k3))) (ed_v hy) (rd_ix (at_map k4)))) (ed_v hz) rd_sub) (show _ = Dt.int (((rowA G s o).length : Int) - (d : Int)) by rw [List.length_map])) fun l H3 e3 hl => ?_
      refine rd_start' [some (.ref p), some vp, some x, some y, some z, some l, none, none] ?_
      have hW3 := hW2.to e3
      refine q_seq ((ed_op (ed_op (ed_kMachine T ev_v hW3) (ed_v hx) (rd_ix (at_map k1))) (ed_v hy) (rd_ix (at_map k2))) H3 (Ext.refl _) _ fun v H4 e4 hv => g_pair hv fun x2 y2 hx2 hy2 => ?_)
      have hx2 : Im K H4 x2 (eN (optA M s o).1) := hx2
      have hy2 : Im K H4 y2 (eW (optA M s o).2) := hy2
      refine rd_start' [some (.ref p), some vp, some x, some y, some z, some l, some x2, some y2] ?_
      have e14 := e1.trans (e2.trans (e3.trans e4))
      have hW4 := hW3.to e4
      cases hw : (optA M s o).2 with
      | some wd =>
        rw [hw] at hy2
        refine q_do (et_B (ed_notN (ed_v hy2) (by simp [eW]))) fun H5 e5 => ?_
        refine st_ret (K := K) (ed_v hl) fun v H6 e6 hv => hQ v H6 (e14.trans (e5.trans e6)) ?_
        cases hv
        refine ⟨fun zz => (by cases zz), fun zz => ?_⟩
        have z1 : (optA M s o).2 = none := zz.1
        rw [hw] at z1
        cases z1
      | none =>
        rw [hw] at hy2
        refine q_skip (et_B (ed_notN (ed_v hy2) (by simp [eW]))) fun H5 e5 => ?_
        have hW5 := hW4.to e5
        cases hv2 : valV kvs (.inl ((optA M s o).1 : Int)) with
        | none =>
          refine st_ret (K := K) (d := .non) (ed_if (k := true) (et_B (ed_kNin (ev_kNear T ev_v hW5) hW5.near (ed_v hx2) (by simp [domK, hv2]))) (fun _ => ed_non) fun zz => by cases zz) fun v H6 e6 hv => hQ v H6 (e14.trans (e5.trans e6)) ?_
          cases hv
          exact ⟨fun _ => ⟨hw, fun zz => zz hv2⟩, fun _ => rfl⟩
        | some u =>
          obtain ⟨i, rfl⟩ := hI _ _ hv2
          refine st_ret (K := K) (ed_if (k := false) (et_B (ed_kNin (ev_kNear T ev_v hW5) hW5.near (ed_v hx2) (by simp [domK, hv2]))) (fun zz => by cases zz) fun _ => ed_op (ed_v hl) (ed_kGet (ev_kNear T ev_v hW5) hW5.near (ed_v hx2) hv2) rd_addI) fun v H6 e6 hv => hQ v H6 (e14.trans (e5.trans e6)) ?_
          cases hv
          refine ⟨fun zz => (by cases zz), fun zz => absurd ?_ zz.2⟩
          show domK kvs (optA M s o).1
          unfold domK
          rw [hv2]
          simp
def R_k_marks_to_part (ds : List Dt) (M : Mach) (G : Tbl) (kvs : List (Key × V)) (φ : Prop) : Prop := ∃ (m : Nat) (a b : Pl) (u v : Wd), ds = [.tup [ePl a, ePl b], .tup [eW u, eW v]] ∧ House M G m ∧ PlOk M G a ∧ PlOk M G b ∧ WdOk u ∧ WdOk v ∧ IntV kvs ∧ φ = PartOk M (domK kvs) a b u v
theorem sc_k_marks_to_part : FnScope ["self", "places", "words"] ["self", "places", "words"] (defScope s_k_marks_to_part) := ⟨rfl, rfl, rfl, by decide +kernel, rfl, by decide +kernel, by decide +kernel⟩
theorem ok_k_marks_to_part (T : Txt w K mg base) : Ok P w K mg base 2 ("Walk", some "marks_to_part") ["self", "places", "words"] (SpKN K (TL K) R_k_marks_to_part) := by
  obtain ⟨⟨fd_k_marks_to_word, F_k_marks_to_word, b_k_marks_to_word⟩, k_k_marks_to_word⟩ := ok_k_marks_to_word (P := P) T
  refine ok_of (k := 1) T.f_k_marks_to_part sc_k_marks_to_part (fun vs H Q E h => ?_) (fun _ _ _ _ _ _ us hl => match us, hl with | [_, _, _], _ => rfl) (fun cdv A outer s H vs Q E hr h => ?_)
  · obtain ⟨p, N, rest, ds, M, G, kvs, φ, rfl, hi, _, _, ⟨m, a, b, u, v, rfl, _⟩, _⟩ := h
    rw [List.length_cons, hi.length]
    rfl
  · obtain ⟨p, N, rest, ds, M, G, kvs, φ, rfl, hi, hT, hW, ⟨m, a, b, u, v, rfl, hH, ha, hb, hu, hv, hI, rfl⟩, hQ⟩ := h
    cases hi with | cons h1 hi => cases hi with | cons h2 hi =>
    cases hi
    rename_i vp vw
    refine ⟨_, (pss_cons (ps_if (pt_cmpR (r := rEqD K) (op_eqD hr.units) (pe_ix (r := rIx K) ix_seq (pv 2) pe_int (fun _ _ => rfl)) (pe_ix (r := rIx K) ix_seq (pv 2) pe_int (fun _ _ => rfl)) (nomark _)) (pss_one (ps_ret pe_non)) pss_nil)
      (pss_cons (ps_if (pt_cmpR (r := rInX K true) (op_ninX (u65 hr)) pe_non (pv 2) (by with_unfolding_all rfl)) (pss_one (ps_ret pe_int)) pss_nil)
      (pss_one (ps_ret (pe_meth (pv 0) T.c_Walk T.m_k_marks_to_word F_k_marks_to_word (hr.mono (by decide)) b_k_marks_to_word .nil pass0 (pa_cons (pe_ifExp (pt_cmp (pc_isN (pe_ix (r := rIx K) ix_seq (pv 2) pe_int (fun _ _ => rfl)))) (pe_ix (r := rIx K) ix_seq (pv 1) pe_int (fun _ _ => rfl)) (pe_ix (r := rIx K) ix_seq (pv 1) pe_int (fun _ _ => rfl))) pa_nil)))))), ?_⟩
    try dsimp only [cxOf, Cx.nox, Cx.wish]
    refine rd_start [some (.ref p), some vp, some vw] ?_
    refine q_if (k := decide (u = v)) (et_test (ed_op (ed_op (ed_v h2) ed_int (rd_ix (by rfl))) (ed_op (ed_v h2) ed_int (rd_ix (by rfl))) (rd_eq (n := 0) (m := 0) (ok_eW hu) (ok_eW hv) (by rw [decide_eq_true_iff, eW_inj])))) (fun z H1 e1 => ?_) fun z H1 e1 => ?_
    · have z2 := of_decide_eq_true z
      refine st_ret (K := K) ed_non fun v' H2 e2 hv' => hQ v' H2 (e1.trans e2) ?_
      cases hv'
      exact ⟨fun _ => .inl z2, fun _ => rfl⟩
    · have z2 := of_decide_eq_false z
      have hW1 := hW.to e1
      have hmem : ∀ k : Bool, (k = true ↔ ¬ (u = none ∨ v = none)) → (k = true ↔ Dt.non ∉ [eW u, eW v]) := fun k hk => by
        rw [hk]
        cases u <;> cases v <;> simp [eW]
      refine q_if (k := decide (¬ (u = none ∨ v = none))) (et_test (ed_op ed_non (ed_v h2) (rd_ninT (n := 0) (m := 0) ok_non (fun e he => by
        simp only [List.mem_cons, List.not_mem_nil, or_false] at he
        rcases he with rfl | rfl
        · exact ok_eW hu
        · exact ok_eW hv) (hmem _ (by rw [decide_eq_true_iff]))))) (fun z3 H2 e2 => ?_) fun z3 H2 e2 => ?_
      · have z4 := of_decide_eq_true z3
        refine st_ret (K := K) ed_int fun v' H3 e3 hv' => hQ v' H3 (e1.trans (e2.trans e3)) ?_
        cases hv'
        refine ⟨fun zz => (by cases zz), fun zz => ?_⟩
        rcases zz with zz | ⟨zz, _⟩ | ⟨_, zz, _⟩
        · exact absurd zz z2
        · exact absurd (.inl zz) z4
        · exact absurd (.inr zz) z4
      · have z4 : u = none ∨ v = none := Classical.not_not.mp (of_decide_eq_false z3)
        have hW2 := hW1.to e2
        dsimp only [tNext]
        cases u with
        | none =>
          have hvn : v ≠ none := fun q => z2 q.symm
          refine r_ret (r_kCallN ev_v hW2 (ea_cons (ed_if (k := true) (et_B (ed_isN (ed_op (ed_v h2) ed_int (rd_ix (by rfl))) (by simp [eW]))) (fun _ => ed_op (ed_v h1) ed_int (rd_ix (by rfl))) fun zz => by cases zz) ea_nil) hT (by walk_at "kp") ⟨m, a, rfl, hH, ha, hI, rfl⟩ fun v' H3 e3 hv' => hQ v' H3 (e1.trans (e2.trans e3)) (hv'.trans ?_))
          constructor
          · exact fun zz => .inr (.inl ⟨rfl, hvn, zz⟩)
          · rintro (zz | ⟨_, _, zz⟩ | ⟨zz, _⟩)
            · exact absurd zz z2
            · exact zz
            · exact absurd rfl zz
        | some wd =>
          have hvn : v = none := z4.elim (fun q => by cases q) id
          refine r_ret (r_kCallN ev_v hW2 (ea_cons (ed_if (k := false) (et_B (ed_isN (ed_op (ed_v h2) ed_int (rd_ix (by rfl))) (by simp [eW]))) (fun zz => by cases zz) fun _ => ed_op (ed_v h1) ed_int (rd_ix (by rfl))) ea_nil) hT (by walk_at "kp") ⟨m, b, rfl, hH, hb, hI, rfl⟩ fun v' H3 e3 hv' => hQ v' H3 (e1.trans (e2.trans e3)) (hv'.trans ?_))
          constructor
          · exact fun zz => .inr (.inr ⟨by simp, hvn, zz⟩)
          · rintro (zz | ⟨zz, _⟩ | ⟨_, _, zz⟩)
            · exact absurd zz z2
            · cases zz
            · exact zz
end
end K29
set_option Elab.async false
set_option linter.all false
set_option maxRecDepth 100000
set_option maxHeartbeats 4000000
/-! the paper: the pairs that can come -/
namespace K29
open PySem PySem.Spec PyProof.Rows L2
local macro_rules | `(tactic| walk_at "kp") => `(tactic| first | exact Kp.refl _ | assumption | exact Chg.kp (by assumption) | (refine Kp.trans ?_ (Chg.kp (by assumption)); walk_at "kp"))
local macro_rules | `(tactic| walk_at "ext") => `(tactic| first | exact Ext.refl _ | assumption | (refine Ext.trans ?_ (by assumption); walk_at "ext"))

/-! ### plain -/
theorem nodup_code {α : Type} (f : α → Nat) : ∀ (l : List α) (U : List Nat), l.Nodup → (∀ x ∈ l, ∀ y ∈ l, f x = f y → x = y) → (∀ x ∈ l, f x ∈ U) → l.length ≤ U.length
  | [], _, _, _, _ => Nat.zero_le _
  | x :: l, U, hn, hi, hU => by
    have hn' := List.nodup_cons.mp hn
    have hx := hU x (by simp)
    have h := nodup_code f l (U.erase (f x)) hn'.2 (fun a ha b hb => hi a (by simp [ha]) b (by simp [hb])) fun y hy => by
      refine (List.mem_erase_of_ne fun z => ?_).mpr (hU y (by simp [hy]))
      have := hi y (by simp [hy]) x (by simp) z
      rw [this] at hy
      exact hn'.1 hy
    rw [List.length_erase_of_mem hx] at h
    have : 1 ≤ U.length := List.length_pos_of_mem hx
    rw [List.length_cons]
    omega
def PrOk (M : Mach) (G : Tbl) (c : Pl × Pl) : Prop := PlOk M G c.1 ∧ PlOk M G c.2
def cdP (p : Pl) : Nat := p.s * 5 + (match p.o with | none => 0 | some o => 1 + o * 2 + p.d)
def cdR (c : Pl × Pl) : Nat := cdP c.1 * 10 + cdP c.2
section
variable {M : Mach} {G : Tbl} {m : Nat} {dom : Nat → Prop}
theorem plOk_small (hH : House M G m) {p : Pl} (h : PlOk M G p) : p.s ≤ 1 ∧ match p.o with | none => p.d = 0 | some o => o ≤ 1 ∧ p.d ≤ 1 := by
  obtain ⟨s, o, d⟩ := p
  have few := hH.few
  cases o with
  | none =>
    obtain ⟨h1, h2⟩ : s < M.length ∧ d = 0 := h
    exact ⟨by show s ≤ 1; omega, h2⟩
  | some o =>
    obtain ⟨h1, h2, h3⟩ : s < M.length ∧ o < optsA M s ∧ d < (rowA G s o).length := h
    obtain ⟨_, _, _, k⟩ := optsA_le hH h1
    obtain ⟨_, _, _, _, _, _, _, _, k2, _⟩ := opt_at hH h2
    exact ⟨by show s ≤ 1; omega, by show o ≤ 1; omega, by show d ≤ 1; omega⟩
theorem cdP_lt (hH : House M G m) {p : Pl} (h : PlOk M G p) : cdP p < 10 := by
  have k := plOk_small hH h
  obtain ⟨s, o, d⟩ := p
  cases o with
  | none =>
    obtain ⟨h1, h2⟩ : s ≤ 1 ∧ d = 0 := k
    show s * 5 + 0 < 10
    omega
  | some o =>
    obtain ⟨h1, h2, h3⟩ : s ≤ 1 ∧ o ≤ 1 ∧ d ≤ 1 := k
    show s * 5 + (1 + o * 2 + d) < 10
    omega
theorem cdP_inj (hH : House M G m) {p q : Pl} (h : PlOk M G p) (h' : PlOk M G q) (e : cdP p = cdP q) : p = q := by
  have k := plOk_small hH h
  have k' := plOk_small hH h'
  obtain ⟨s, o, d⟩ := p
  obtain ⟨s', o', d'⟩ := q
  cases o with
  | none =>
    obtain ⟨h1, h2⟩ : s ≤ 1 ∧ d = 0 := k
    cases o' with
    | none =>
      obtain ⟨g1, g2⟩ : s' ≤ 1 ∧ d' = 0 := k'
      have e : s * 5 + 0 = s' * 5 + 0 := e
      obtain rfl : s = s' := by omega
      rw [h2, g2]
    | some o' =>
      obtain ⟨g1, g2, g3⟩ : s' ≤ 1 ∧ o' ≤ 1 ∧ d' ≤ 1 := k'
      have e : s * 5 + 0 = s' * 5 + (1 + o' * 2 + d') := e
      rcases (show s = 0 ∨ s = 1 by omega) with rfl | rfl <;> rcases (show s' = 0 ∨ s' = 1 by omega) with rfl | rfl <;> omega
  | some o =>
    obtain ⟨h1, h2, h3⟩ : s ≤ 1 ∧ o ≤ 1 ∧ d ≤ 1 := k
    cases o' with
    | none =>
      obtain ⟨g1, g2⟩ : s' ≤ 1 ∧ d' = 0 := k'
      have e : s * 5 + (1 + o * 2 + d) = s' * 5 + 0 := e
      rcases (show s = 0 ∨ s = 1 by omega) with rfl | rfl <;> rcases (show s' = 0 ∨ s' = 1 by omega) with rfl | rfl <;> omega
    | some o' =>
      obtain ⟨g1, g2, g3⟩ : s' ≤ 1 ∧ o' ≤ 1 ∧ d' ≤ 1 := k'
      have e : s * 5 + (1 + o * 2 + d) = s' * 5 + (1 + o' * 2 + d') := e
      obtain rfl : s = s' := by omega
      obtain rfl : o = o' := by omega
      obtain rfl : d = d' := by omega
      rfl
theorem prs_len (hH : House M G m) {prs : List (Pl × Pl)} (hn : prs.Nodup) (hok : ∀ c ∈ prs, PrOk M G c) : prs.length ≤ 100 := by
  have := nodup_code cdR prs (List.range 100) hn (fun x hx y hy e => ?_) fun x hx => ?_
  · rwa [List.length_range] at this
  · have a1 := cdP_lt hH (hok x hx).1
    have a2 := cdP_lt hH (hok x hx).2
    have b1 := cdP_lt hH (hok y hy).1
    have b2 := cdP_lt hH (hok y hy).2
    have e : cdP x.1 * 10 + cdP x.2 = cdP y.1 * 10 + cdP y.2 := e
    have e1 := cdP_inj hH (hok x hx).1 (hok y hy).1 (by omega)
    have e2 := cdP_inj hH (hok x hx).2 (hok y hy).2 (by omega)
    exact Prod.ext e1 e2
  · have a1 := cdP_lt hH (hok x hx).1
    have a2 := cdP_lt hH (hok x hx).2
    rw [List.mem_range]
    show cdP x.1 * 10 + cdP x.2 < 100
    omega
theorem chA_ok (hH : House M G m) {a b : Pl} (ha : PlOk M G a) (hb : PlOk M G b) : ∀ e ∈ chA M a b, PrOk M G e := by
  have g : ∀ {p : Pl}, PlOk M G p → ∀ o, o < optsA M p.s → PlOk M G ⟨p.s, some o, 0⟩ := fun {p} h o ho => by
    obtain ⟨_, _, _, _, _, _, _, k, _⟩ := opt_at hH ho
    exact ⟨h.1, ho, k⟩
  intro e he
  unfold chA at he
  rcases List.mem_append.mp he with he | he
  · split at he
    · obtain ⟨o, ho, rfl⟩ := List.mem_map.mp he
      exact ⟨g ha o (List.mem_range.mp ho), hb⟩
    · cases he
  · split at he
    · obtain ⟨o, ho, rfl⟩ := List.mem_map.mp he
      exact ⟨ha, g hb o (List.mem_range.mp ho)⟩
    · cases he
theorem chA_len (hH : House M G m) {a b : Pl} (ha : PlOk M G a) (hb : PlOk M G b) : (chA M a b).length ≤ 4 := by
  obtain ⟨_, _, _, ka⟩ := optsA_le hH ha.1
  obtain ⟨_, _, _, kb⟩ := optsA_le hH hb.1
  unfold chA
  rw [List.length_append]
  split <;> split <;> simp <;> omega
def Tog (G : Tbl) (a b : Pl) : Prop := a.o ≠ none ∧ b.o ≠ none ∧ mkA G a = mkA G b
def Cl (M : Mach) (G : Tbl) (dom : Nat → Prop) (prs : List (Pl × Pl)) (c : Pl × Pl) : Prop := (∀ e ∈ chA M c.1 c.2, e ∈ prs) ∧ (Tog G c.1 c.2 → PartOk M dom (stepA M G c.1).1 (stepA M G c.2).1 (stepA M G c.1).2 (stepA M G c.2).2 ∧ ((stepA M G c.1).2 = (stepA M G c.2).2 → ((stepA M G c.1).1, (stepA M G c.2).1) ∈ prs))
theorem Cl.mono {prs prs' : List (Pl × Pl)} {c : Pl × Pl} (h : Cl M G dom prs c) (k : ∀ e ∈ prs, e ∈ prs') : Cl M G dom prs' c :=
  ⟨fun e he => k e (h.1 e he), fun t => ⟨(h.2 t).1, fun e => k _ ((h.2 t).2 e)⟩⟩
theorem silent_mono {dom' : Nat → Prop} (hS : ∀ s, dom' s → dom s) {p : Pl} (h : Silent M dom p) : Silent M dom' p := by
  obtain ⟨s, o, d⟩ := p
  cases o with
  | none => exact fun z => h (hS _ z)
  | some o => exact ⟨h.1, fun z => h.2 (hS _ z)⟩
def st0 : Pl × Pl := (⟨0, none, 0⟩, ⟨0, none, 0⟩)
theorem holds_of (hS : ∀ s, Say M s → dom s) {prs : List (Pl × Pl)} (h0 : st0 ∈ prs) (hcl : ∀ c ∈ prs, Cl M G dom prs c) : Holds M G (Say M) (· ∈ prs) where
  start := h0
  one := fun a b hf ha o ho => (hcl _ hf).1 _ (by
    unfold chA
    rw [if_pos ha]
    exact List.mem_append.mpr (.inl (List.mem_map.mpr ⟨o, List.mem_range.mpr ho, rfl⟩)))
  other := fun a b hf hb o ho => (hcl _ hf).1 _ (by
    unfold chA
    rw [if_pos hb]
    exact List.mem_append.mpr (.inr (List.mem_map.mpr ⟨o, List.mem_range.mpr ho, rfl⟩)))
  both := fun a b oa ob hf ha hb hm => by
    have e : Tog G a b := ⟨by rw [ha]; simp, by rw [hb]; simp, by
      unfold mkA
      rw [ha, hb]
      exact hm⟩
    have h := (hcl _ hf).2 e
    have ea : stepA M G a = goneA M G a.s oa a.d := by unfold stepA; rw [ha]
    have eb : stepA M G b = goneA M G b.s ob b.d := by unfold stepA; rw [hb]
    dsimp only at h
    rw [ea, eb] at h
    obtain ⟨h1, h2⟩ := h
    rcases h1 with z | ⟨z, _, y⟩ | ⟨_, z, y⟩
    · exact .inl ⟨z, h2 z⟩
    · exact .inr (.inl ⟨z, silent_mono hS y⟩)
    · exact .inr (.inr ⟨z, silent_mono hS y⟩)
  near := say_near
theorem tog_split (hH : House M G m) (a b : Pl) : ∃ tg dx dy, togA M G a b = .tup [.bl tg, dx, dy] ∧ (tg = true → Tog G a b ∧ dx = .tup [ePl (stepA M G a).1, ePl (stepA M G b).1] ∧ dy = .tup [eW (stepA M G a).2, eW (stepA M G b).2]) ∧ (tg = false → ¬ Tog G a b) := by
  unfold togA
  by_cases z : a.o ≠ none ∧ b.o ≠ none ∧ mkA G a = mkA G b
  · rw [if_pos z]
    exact ⟨true, _, _, rfl, fun _ => ⟨z, rfl, rfl⟩, fun q => by cases q⟩
  · rw [if_neg z]
    exact ⟨false, _, _, rfl, fun q => (by cases q), fun _ => z⟩
end
section
variable {P : Program} {w : World} {K : PySem.W.Frag} {mg : Str → Option Value} {base : Heap} {H H' : Hp} {σ : L2.St} {ta tc : TE} {D : Ends} {tz : TS} {t : TT} {ds es : List Dt} {z d : Dt} {a : Addr}
theorem im_start (T : Txt w K mg base) (H : Hp) : Im K H (.ref (He.ga K "START")) (ePr st0) := .tup (T.con 5 (h := rfl) H) (.cons (.tup (T.con 6 (h := rfl) H) (.cons (.int 0) (.cons .non (.cons (.int 0) .nil)))) (.cons (.tup (T.con 7 (h := rfl) H) (.cons (.int 0) (.cons .non (.cons (.int 0) .nil)))) .nil))
theorem st_parS {i j l : Nat} (h1 : EdN K ta σ H ds) (hz : ∀ H, Im K H (.ref a) z) (ho : ok 8 z = true) (h3 : Ed K tc σ H d) (k : ∀ F D' y H1, Ext H H1 → H F = none → H D' = none → LsM K H1 F ds → SeenAt P w K H1 D' [z] → Im K H1 y d → D.nx (((σ.set i (some (.ref F))).set j (some (.ref D'))).set l (some y)) H1) : tPar3 i j l (tCons ta (tCons (tDisp1S P w K a) (tCons tc tNil))) D σ H :=
  h1 H (Ext.refl H) _ fun F H1 e1 hF hl => ⟨z, hz H1, ho, fun p H2 hp e2 hs => h3 H2 (e1.trans e2) _ fun y H3 e3 hy => ⟨_, _, y, rfl, k F p y H3 (e1.trans (e2.trans e3)) hF (e1.free hp) (hl.to (e2.trans e3)) (hs.to e3) hy⟩⟩
theorem im_ref {v : V} {ds : List Dt} (h : Im K H v (.tup ds)) : ∃ a, v = .ref a := by
  cases h with
  | tup _ _ => exact ⟨_, rfl⟩
theorem q_ifJ {k : Bool} {tu tw : TS} (Pm : L2.St → Hp → Prop) (h : EdT t σ H k) (hk : ∀ σ H, Pm σ H → tz D σ H) (h1 : k = true → ∀ Z : L2.St → Hp → Prop, (∀ σ H, Pm σ H → Z σ H) → ∀ H1, Ext H H1 → tu { D with nx := Z } σ H1) (h2 : k = false → ∀ Z : L2.St → Hp → Prop, (∀ σ H, Pm σ H → Z σ H) → ∀ H1, Ext H H1 → tw { D with nx := Z } σ H1) : tSeq (tIfS t tu tw) tz D σ H :=
  q_if h (fun z => h1 z _ hk) fun z => h2 z _ hk
def SpPaper (K : PySem.W.Frag) (TL : List Addr) : Sp := fun vs H Q _ => ∃ (p N : Addr) (M : Mach) (G : Tbl) (kvs : List (Key × V)) (m : Nat), vs = [.ref p] ∧ Tabs TL H ∧ KAt K H p N M G kvs ∧ IntV kvs ∧ House M G m ∧ (∀ s, Say M s → domK kvs s) ∧
  ∀ v H', Ext H H' → (v ≠ .non → ∃ F, Holds M G (Say M) F) → Q v H'
theorem sc_paper_of : FnScope ["walk", "found", "seen", "at", "pair", "goes", "places", "words", "longer", "one"] ["walk"] (defScope s_paper_of) := ⟨rfl, rfl, rfl, by decide +kernel, rfl, by decide +kernel, by decide +kernel⟩
theorem ok_paper_of (T : Txt w K mg base) : Ok P w K mg base 3 ("paper_of", none) ["walk"] (SpPaper K (TL K)) := by
  obtain ⟨⟨fd_k_together, F_k_together, b_k_together⟩, k_k_together⟩ := ok_k_together (P := P) T
  obtain ⟨⟨fd_k_chosen, F_k_chosen, b_k_chosen⟩, k_k_chosen⟩ := ok_k_chosen (P := P) T
  obtain ⟨⟨fd_k_marks_to_part, F_k_marks_to_part, b_k_marks_to_part⟩, k_k_marks_to_part⟩ := ok_k_marks_to_part (P := P) T
  refine ok_of (k := 2) T.f_paper_of sc_paper_of (fun vs H Q E h => ?_) (fun _ _ _ _ _ _ us hl => match us, hl with | [_], _ => rfl) (fun cdv A outer s H vs Q E hr h => ?_)
  · obtain ⟨p, N, M, G, kvs, m, rfl, _⟩ := h
    rfl
  · obtain ⟨p, N, M, G, kvs, m, rfl, hT, hW, hI, hH, hS, hQ⟩ := h
    refine ⟨_, (pss_cons (ps_par3 (i := 1) (j := 2) (l := 3) (by rfl) sc_paper_of.nd rfl rfl rfl (by decide) (by decide) (by decide) rfl rfl rfl (pa_cons (pe_lst (pa_cons (pe_gref (by rfl) T.g_START) pa_nil)) (pa_cons (pe_disp1S (u65 hr) (pe_gref (by rfl) T.g_START)) (pa_cons pe_int pa_nil))) (by rfl))
      (pss_cons (ps_while PassesOwn.never (pt_cmpR op_ltX (pv 3) (pe_callB (id := "len") (r := rLenX K) call_lenX (by rfl) T.g_len (by decide +kernel) (pa_cons (pv 1) pa_nil)) (nomark _)) (pss_cons (ps_set (i := 4) sc_paper_of.nd rfl (Or.inl rfl) (pe_ix (r := rIx K) ix_seq (pv 1) (pv 3) (fun _ _ => rfl)))
        (pss_cons (ps_aug (i := 3) sc_paper_of.nd rfl (Or.inl rfl) pe_int ip_add)
        (pss_cons (ps_asg (pe_meth (pv 0) T.c_Walk T.m_k_together F_k_together (hr.mono (by decide)) b_k_together .nil pass0 (pa_cons (pv 4) pa_nil)) (pg_tup rfl (pgs_cons (pg_name (i := 5) sc_paper_of.nd rfl (Or.inl rfl)) (pgs_cons (pg_name (i := 6) sc_paper_of.nd rfl (Or.inl rfl)) (pgs_cons (pg_name (i := 7) sc_paper_of.nd rfl (Or.inl rfl)) pgs_nil)))))
        (pss_cons (ps_set (i := 8) sc_paper_of.nd rfl (Or.inl rfl) (pe_meth (pv 0) T.c_Walk T.m_k_chosen F_k_chosen (hr.mono (by decide)) b_k_chosen .nil pass0 (pa_cons (pv 4) pa_nil)))
        (pss_cons (ps_if (pt_val (pv 5)) (pss_cons (ps_if (pt_cmp (pc_notN (pe_meth (pv 0) T.c_Walk T.m_k_marks_to_part F_k_marks_to_part (hr.mono (by decide)) b_k_marks_to_part .nil pass0 (pa_cons (pv 6) (pa_cons (pv 7) pa_nil))))) (pss_one (ps_ret pe_non)) pss_nil)
          (pss_one (ps_if (pt_cmpR (r := rEqD K) (op_eqD hr.units) (pe_ix (r := rIx K) ix_seq (pv 7) pe_int (fun _ _ => rfl)) (pe_ix (r := rIx K) ix_seq (pv 7) pe_int (fun _ _ => rfl)) (nomark _)) (pss_one (ps_expr (pe_bm PySem.F.plainAttrs_list PySem.F.slot_list_append PySem.F.type_list_append mt_append (pv 8) (pa_cons (pv 6) pa_nil)))) pss_nil))) pss_nil)
        (pss_one (ps_for PassesOwn.never rfl (pi_list (pv 8)) (pg_name (i := 9) sc_paper_of.nd rfl (Or.inl rfl))
          (pss_one (ps_if (pt_cmpR (r := rSeen P w K true) (op_ninSeen (u65 hr)) (pv 9) (pv 2) (by with_unfolding_all rfl)) (pss_cons (ps_asg pe_bl (pg_sub (pv 2) (pv 9) (set_seen (u65 hr))))
            (pss_one (ps_expr (pe_bm PySem.F.plainAttrs_list PySem.F.slot_list_append PySem.F.type_list_append mt_append (pv 1) (pa_cons (pv 9) pa_nil))))) pss_nil))))))))))
      (pss_one (ps_ret (pv 1))))), ?_⟩
    try dsimp only [cxOf, Cx.nox, Cx.wish]
    refine rd_start [some (.ref p), none, none, none, none, none, none, none, none, none] ?_
    refine q_seq (st_parS (en_lst (ea_cons (ed_cst (im_start T)) ea_nil) (by simp)) (im_start T) ok_ePr ed_int fun F D y H1 e1 nF nD hF hD hy => ?_)
    cases hy
    refine rd_start' [some (.ref p), some (.ref F), some (.ref D), some (.int (0 : Nat)), none, none, none, none, none, none] ?_
    have hW1 := hW.to e1
    have hFD : F ≠ D := fun z => by
      obtain ⟨xs, h1, _⟩ := hF
      obtain ⟨φ, h2⟩ := seen_live hD
      rw [z, h2] at h1
      cases h1
    have hext : ∀ {H'}, Chg [F, D] H1 H' → Ext H H' := fun {H'} c => (e1.chg.trans c).ext fun b hb => by
      simp only [List.mem_cons, List.not_mem_nil, or_false] at hb
      rcases hb with rfl | rfl
      · exact nF
      · exact nD
    have hpn : p ∉ [F, D] ∧ N ∉ [F, D] := by
      obtain ⟨dx, a, b, g0, _, _, g1⟩ := id hW
      constructor
      · intro z
        simp only [List.mem_cons, List.not_mem_nil, or_false] at z
        rcases z with rfl | rfl
        · rw [nF] at g0; cases g0
        · rw [nD] at g0; cases g0
      · intro z
        simp only [List.mem_cons, List.not_mem_nil, or_false] at z
        rcases z with rfl | rfl
        · rw [nF] at g1; cases g1
        · rw [nD] at g1; cases g1
    refine q_seq (st_while (fun k σ' H' => ∃ (prs : List (Pl × Pl)) (at_ : Nat) (b c d e f g : Option V), σ' = [some (.ref p), some (.ref F), some (.ref D), some (.int at_), b, c, d, e, f, g] ∧ Chg [F, D] H1 H' ∧ LsM K H' F (prs.map ePr) ∧ SeenAt P w K H' D (prs.map ePr) ∧ prs.Nodup ∧ (∀ c ∈ prs, PrOk M G c) ∧ st0 ∈ prs ∧ at_ ≤ prs.length ∧
      (∀ i c, i < at_ → prs[i]? = some c → Cl M G (domK kvs) prs c) ∧ k = 100 - at_) 100 ⟨[st0], 0, none, none, none, none, none, none, rfl, Chg.refl _ _, hF, hD, by simp, ?_, by simp, Nat.zero_le _, fun i c h => absurd h (Nat.not_lt_zero _), rfl⟩ ?_)
    · intro c hc
      rw [List.mem_singleton.mp hc]
      have := hH.ne
      exact ⟨⟨this, rfl⟩, ⟨this, rfl⟩⟩
    rintro k σ' H2 ⟨prs, at_, b, c, d, e, f, g, rfl, c2, hl, hsn, nd, hok, hst, hle, hcl, rfl⟩
    have h100 := prs_len hH nd hok
    refine ⟨_, et_test (ed_op ed_vi (ed_lenL (el_v hl)) rd_lt), fun z H3 e3 => ?_, fun z H3 e3 => ?_⟩
    · have z2 := of_decide_eq_true z
      rw [List.length_map] at z2
      have z3 : at_ < prs.length := by omega
      obtain ⟨pr, hpr⟩ : ∃ pr, prs[at_]? = some pr := ⟨_, List.getElem?_eq_getElem z3⟩
      obtain ⟨pa, pb⟩ := pr
      obtain ⟨oka, okb⟩ := hok _ (List.mem_of_getElem? hpr)
      refine q_set (ed_ixL (el_v (hl.to e3)) ed_vi (at_map hpr)) fun vp H4 e4 hvp => ?_
      refine rd_start' [some (.ref p), some (.ref F), some (.ref D), some (.int at_), some vp, c, d, e, f, g] ?_
      refine q_aug (K := K) (by rfl) ed_int fun H5 e5 => ?_
      refine rd_start' [some (.ref p), some (.ref F), some (.ref D), some (.int ((at_ : Int) + 1)), some vp, c, d, e, f, g] ?_
      have e25 := e3.trans (e4.trans e5)
      have hW5 : KAt K H5 p N M G kvs := hW1.chg (c2.trans e25.chg) hpn.1 hpn.2
      obtain ⟨tg, dx, dy, etg, hyes, hno⟩ := tog_split hH pa pb
      have hT5 : Kp H H5 := (e1.kp.trans c2.kp).trans e25.kp
      refine q_seq ((ed_kCall ev_v hW5 (ea_cons (ed_v hvp) ea_nil) hT hT5 ⟨m, pa, pb, rfl, hH, oka, okb, etg.symm⟩) H5 (Ext.refl _) _ fun v H6 e6 hv => g_trip hv fun vg vx vy hg hx hy => ?_)
      cases hg
      refine rd_start' [some (.ref p), some (.ref F), some (.ref D), some (.int ((at_ : Int) + 1)), some vp, some (.bl tg), some vx, some vy, f, g] ?_
      have hW6 := hW5.to e6
      refine q_setN (en_kCall ev_v hW6 (ea_cons (ed_v hvp) ea_nil) hT (hT5.trans e6.kp) ⟨m, pa, pb, rfl, hH, oka, okb, rfl⟩) fun L H7 e7 nL hL => ?_
      refine rd_start' [some (.ref p), some (.ref F), some (.ref D), some (.int ((at_ : Int) + 1)), some vp, some (.bl tg), some vx, some vy, some (.ref L), g] ?_
      have e27 := e25.trans (e6.trans e7)
      have hl7 := hl.to e27
      have hsn7 := hsn.to e27
      have hLF : L ≠ F := fun z => by
        obtain ⟨xs, h1, _⟩ := hl.to (e25.trans e6)
        rw [← z, nL] at h1
        cases h1
      have hLD : L ≠ D := fun z => by
        obtain ⟨φ, h2⟩ := seen_live (hsn.to (e25.trans e6))
        rw [← z, nL] at h2
        cases h2
      have nL1 : H1 L = none := (c2.trans (e25.trans e6).chg).kpl nL
      have c17 : Chg [F, D] H1 H7 := c2.trans e27.chg
      refine q_ifJ (fun σ' H' => σ' = [some (.ref p), some (.ref F), some (.ref D), some (.int ((at_ : Int) + 1)), some vp, some (.bl tg), some vx, some vy, some (.ref L), g] ∧ ∃ lg : List (Pl × Pl), Chg [L] H7 H' ∧ LsM K H' L (lg.map ePr) ∧ (∀ e ∈ chA M pa pb, e ∈ lg) ∧ (∀ e ∈ lg, PrOk M G e) ∧ (Tog G pa pb → PartOk M (domK kvs) (stepA M G pa).1 (stepA M G pb).1 (stepA M G pa).2 (stepA M G pb).2 ∧ ((stepA M G pa).2 = (stepA M G pb).2 → ((stepA M G pa).1, (stepA M G pb).1) ∈ lg))) (et_B (ed_vb (K := K))) ?_ ?_ ?_
      · rintro σ' H8 ⟨rfl, lg, c8, hL8, hsub, hlok, htog⟩
        obtain ⟨xs, hLx, hLi⟩ := hL8
        have hl8 : LsM K H8 F (prs.map ePr) := by
          obtain ⟨ys, a1, a2⟩ := hl7
          exact ⟨ys, c8.obj F _ (by simp [Ne.symm hLF]) a1 (by intro ps z; cases z), a2.to c8.kp⟩
        have hsn8 := hsn7.chg c8 (by simp [Ne.symm hLD])
        have c18 : Chg [F, D] H1 H8 := c17.dropNew c8 nL1
        refine st_forV ev_v hLx (fun j σ' H' => ∃ (prs' : List (Pl × Pl)) (g : Option V), σ' = [some (.ref p), some (.ref F), some (.ref D), some (.int ((at_ : Int) + 1)), some vp, some (.bl tg), some vx, some vy, some (.ref L), g] ∧ Chg [F, D] H8 H' ∧ LsM K H' F (prs'.map ePr) ∧ SeenAt P w K H' D (prs'.map ePr) ∧ prs'.Nodup ∧ (∀ c ∈ prs', PrOk M G c) ∧ (∀ (i : Nat) c, prs[i]? = some c → prs'[i]? = some c) ∧ ∀ (i : Nat) e, i < j → lg[i]? = some e → e ∈ prs')
          (fun H9 e9 => ⟨prs, g, rfl, e9.chg, hl8.to e9, hsn8.to e9, nd, hok, fun i c h => h, fun i e h => absurd h (Nat.not_lt_zero _)⟩) ?_ ?_ ?_
        · rintro j σ' H9 ⟨prs', g', rfl, c9, _⟩
          exact c9.obj L _ (by simp [hLF, hLD]) hLx (by intro ps z; cases z)
        · rintro j v σ' H9 hv ⟨prs', g', rfl, c9, hl9, hsn9, nd9, ok9, pre9, in9⟩
          obtain ⟨d0, hd0, hvi⟩ := hLi.getv hv
          rw [List.getElem?_map] at hd0
          obtain ⟨e0, he0, rfl⟩ := Option.map_eq_some_iff.mp hd0
          obtain ⟨a0, rfl⟩ := im_ref hvi
          have h100' := prs_len hH nd9 ok9
          refine g_nm [some (.ref p), some (.ref F), some (.ref D), some (.int ((at_ : Int) + 1)), some vp, some (.bl tg), some vx, some vy, some (.ref L), some (.ref a0)] ?_
          have hvi9 := hvi.to c9.kp
          by_cases hin : e0 ∈ prs'
          · refine st_skip (et_ninSeen ev_v ev_v hsn9 hvi9 ok_ePr (show false = true ↔ ePr e0 ∉ prs'.map ePr from ⟨fun z => (by cases z), fun z => absurd (List.mem_map.mpr ⟨e0, hin, rfl⟩) z⟩)) fun H10 e10 => ?_
            refine ⟨prs', _, rfl, c9.trans e10.chg, hl9.to e10, hsn9.to e10, nd9, ok9, pre9, fun i e hi he => ?_⟩
            rcases Nat.lt_succ_iff_lt_or_eq.mp hi with q | q
            · exact in9 i e q he
            · subst q
              rw [he0] at he
              cases he
              exact hin
          · have hin2 : ePr e0 ∉ prs'.map ePr := fun z => by
              obtain ⟨e1, h1, h2⟩ := List.mem_map.mp z
              rw [ePr_inj.mp h2] at h1
              exact hin h1
            refine st_do (et_ninSeen ev_v ev_v hsn9 hvi9 ok_ePr (show true = true ↔ ePr e0 ∉ prs'.map ePr from ⟨fun _ => hin2, fun _ => rfl⟩)) fun H10 e10 => ?_
            refine q_setSeen ev_v ev_v (hsn9.to e10) (hvi9.to e10.kp) ok_ePr hin2 (by rw [List.length_map]; omega) fun H11 c11 hsn11 => ?_
            have hl11 : LsM K H11 F (prs'.map ePr) := by
              obtain ⟨ys, a1, a2⟩ := hl9.to e10
              exact ⟨ys, c11.obj F _ (by simp [hFD]) a1 (by intro ps z; cases z), a2.to c11.kp⟩
            have hvi11 := (hvi9.to e10.kp).to c11.kp
            refine st_app (K := K) hl11 ev_v (ed_v hvi11) (by rw [List.length_map]; omega) fun H12 c12 hl12 => ?_
            have hsn12 := hsn11.chg c12 (by simp [Ne.symm hFD])
            refine ⟨prs' ++ [e0], _, rfl, c9.trans (e10.chg.trans ((c11.mono (by simp)).trans (c12.mono (by simp)))), by rw [List.map_append]; exact hl12, by rw [List.map_append]; exact hsn12, ?_, ?_, ?_, ?_⟩
            · refine List.nodup_append.mpr ⟨nd9, by simp, fun a ha b hb q => ?_⟩
              rw [List.mem_singleton.mp hb] at q
              rw [q] at ha
              exact hin ha
            · intro c hc
              rcases List.mem_append.mp hc with hc | hc
              · exact ok9 c hc
              · rw [List.mem_singleton.mp hc]
                exact hlok e0 (List.mem_of_getElem? he0)
            · intro i c hc
              have := pre9 i c hc
              rw [List.getElem?_append_left (List.getElem?_eq_some_iff.mp this).1]
              exact this
            · intro i e hi he
              rcases Nat.lt_succ_iff_lt_or_eq.mp hi with q | q
              · exact List.mem_append.mpr (.inl (in9 i e q he))
              · subst q
                rw [he0] at he
                cases he
                simp
        · rintro σ' H9 ⟨prs', g', rfl, c9, hl9, hsn9, nd9, ok9, pre9, in9⟩
          have hlen : xs.length = lg.length := by rw [hLi.length, List.length_map]
          have sub9 : ∀ e ∈ prs, e ∈ prs' := fun e he => by
            obtain ⟨i, hi⟩ := List.getElem?_of_mem he
            exact List.mem_of_getElem? (pre9 i e hi)
          have lg9 : ∀ e ∈ lg, e ∈ prs' := fun e he => by
            obtain ⟨i, hi⟩ := List.getElem?_of_mem he
            exact in9 i e (by rw [hlen]; exact (List.getElem?_eq_some_iff.mp hi).1) hi
          have at9 := pre9 at_ _ hpr
          have l9 := (List.getElem?_eq_some_iff.mp at9).1
          refine ⟨100 - (at_ + 1), by omega, prs', at_ + 1, _, _, _, _, _, _, rfl, c18.trans c9, hl9, hsn9, nd9, ok9, sub9 _ hst, l9, ?_, rfl⟩
          intro i c hi hc
          rcases Nat.lt_succ_iff_lt_or_eq.mp hi with q | q
          · have hc2 := pre9 i _ (List.getElem?_eq_getElem (show i < prs.length by omega))
            have : c = prs[i] := Option.some.inj (hc.symm.trans hc2)
            exact (hcl i c q (by rw [this]; exact List.getElem?_eq_getElem _)).mono sub9
          · subst q
            rw [at9] at hc
            cases hc
            exact ⟨fun e he => lg9 e (hsub e he), fun t => ⟨(htog t).1, fun q => lg9 _ ((htog t).2 q)⟩⟩
      · rintro zt Z hZ H8 e8
        obtain ⟨tgP, rfl, rfl⟩ := hyes zt
        obtain ⟨okA, wu⟩ := step_plOk hH oka
        obtain ⟨okB, wv⟩ := step_plOk hH okb
        have hW8 := hW6.to (e7.trans e8)
        have hT8 : Kp H H8 := (hT5.trans e6.kp).trans (e7.trans e8).kp
        have hx8 := hx.to (e7.trans e8).kp
        have hy8 := hy.to (e7.trans e8).kp
        by_cases hp : PartOk M (domK kvs) (stepA M G pa).1 (stepA M G pb).1 (stepA M G pa).2 (stepA M G pb).2
        · refine q_skip (et_B (ed_kCallN ev_v hW8 (ea_cons (ed_v hx8) (ea_cons (ed_v hy8) ea_nil)) hT hT8 ⟨m, _, _, _, _, rfl, hH, okA, okB, wu, wv, hI, rfl⟩ (show false = true ↔ _ from ⟨fun z => (by cases z), fun z => absurd hp z⟩))) fun H9 e9 => ?_
          have hy9 := hy8.to e9.kp
          have e79 := e8.trans e9
          refine st_if (k := decide ((stepA M G pa).2 = (stepA M G pb).2)) (et_test (ed_op (ed_op (ed_v hy9) ed_int (rd_ix (by rfl))) (ed_op (ed_v hy9) ed_int (rd_ix (by rfl))) (rd_eq (n := 0) (m := 0) (ok_eW wu) (ok_eW wv) (by rw [decide_eq_true_iff, eW_inj])))) (fun z4 H10 e10 => ?_) fun z4 H10 e10 => ?_
          · have hx10 := (hx8.to e9.kp).to e10.kp
            have hL10 := hL.to (e79.trans e10)
            refine st_app (K := K) (d := ePr ((stepA M G pa).1, (stepA M G pb).1)) hL10 ev_v (ed_v hx10) (by rw [List.length_map]; exact Nat.lt_of_le_of_lt (chA_len hH oka okb) (by decide)) fun H11 c11 hL11 => hZ _ _ ⟨rfl, chA M pa pb ++ [((stepA M G pa).1, (stepA M G pb).1)], (e79.trans e10).chg.trans c11, by rw [List.map_append]; exact hL11, fun e he => by simp [he], fun e he => ?_, fun _ => ⟨hp, fun _ => by simp⟩⟩
            rcases List.mem_append.mp he with he | he
            · exact chA_ok hH oka okb e he
            · rw [List.mem_singleton.mp he]
              exact ⟨okA, okB⟩
          · exact hZ _ _ ⟨rfl, chA M pa pb, (e79.trans e10).chg, hL.to (e79.trans e10), fun e he => he, chA_ok hH oka okb, fun _ => ⟨hp, fun q => absurd q (of_decide_eq_false z4)⟩⟩
        · refine q_do (et_B (ed_kCallN ev_v hW8 (ea_cons (ed_v hx8) (ea_cons (ed_v hy8) ea_nil)) hT hT8 ⟨m, _, _, _, _, rfl, hH, okA, okB, wu, wv, hI, rfl⟩ (show true = true ↔ _ from ⟨fun _ => hp, fun _ => rfl⟩))) fun H9 e9 => ?_
          refine st_ret (K := K) ed_non fun v H10 e10 hv => hQ v H10 ?_ fun q => ?_
          · exact hext (c17.trans (e8.trans (e9.trans e10)).chg)
          · cases hv
            exact absurd rfl q
      · rintro zf Z hZ H8 e8
        exact hZ _ _ ⟨rfl, chA M pa pb, e8.chg, hL.to e8, fun e he => he, chA_ok hH oka okb, fun t => absurd t (hno zf)⟩
    · have z2 := of_decide_eq_false z
      rw [List.length_map] at z2
      have z3 : at_ = prs.length := by omega
      refine r_ret ((ev_v (by rfl)) H3 (Ext.refl _) _ fun H4 e4 => hQ _ H4 (hext (c2.trans (e3.trans e4).chg)) fun _ => ⟨(· ∈ prs), holds_of hS hst fun c hc => ?_⟩)
      obtain ⟨i, hi⟩ := List.getElem?_of_mem hc
      exact hcl i c (by rw [z3]; exact (List.getElem?_eq_some_iff.mp hi).1) hi
end
end K29
set_option Elab.async false
set_option linter.all false
set_option maxRecDepth 100000
set_option maxHeartbeats 4000000
/-! is_safe: true only if no two lives part -/
namespace K29
open PySem PySem.Spec PyProof.Rows L2
local macro_rules | `(tactic| walk_at "kp") => `(tactic| first | exact Kp.refl _ | assumption | exact Chg.kp (by assumption) | (refine Kp.trans ?_ (Chg.kp (by assumption)); walk_at "kp"))
local macro_rules | `(tactic| walk_at "ext") => `(tactic| first | exact Ext.refl _ | assumption | (refine Ext.trans ?_ (by assumption); walk_at "ext"))

section
variable {P : Program} {w : World} {K : PySem.W.Frag} {mg : Str → Option Value} {base : Heap}
def SpSafe (K : PySem.W.Frag) (TL : List Addr) : Sp := fun vs H Q _ => ∃ (M : Mach) (G : Tbl) (m : Nat), ImAll K H vs [eM M, eN m, eT G] ∧ Tabs TL H ∧ House M G m ∧ ∀ (b : Bool) H', Ext H H' → (b = true → ∃ F, Holds M G (Say M) F) → Q (.bl b) H'
theorem ed_callSafe {TL : List Addr} {H H0 : Hp} {σ : L2.St} {E : XK} {tr : TA} {M : Mach} {G : Tbl} {m : Nat} {Q : VK} (h : EdA K tr σ H [eM M, eN m, eT G]) (ht : Tabs TL H0) (hk : Kp H0 H) (hH : House M G m) (k : ∀ (b : Bool) H', Ext H H' → (b = true → ∃ F, Holds M G (Say M) F) → Q (.bl b) H') : tCall (SpSafe K TL) [] E tr σ H Q :=
  h H (Ext.refl H) _ fun vs H1 e1 hs => ⟨M, G, m, by rw [List.append_nil]; exact hs, ht.to (hk.trans e1.kp), hH, fun b H2 e2 z => k b H2 (e1.trans e2) z⟩
theorem r_makeK {H : Hp} {σ : L2.St} {E : XK} {tr : TA} {M : Mach} {G : Tbl} {m : Nat} {Q : VK} (h : EdA K tr σ H [eM M, eT G]) (hH : House M G m) (k : ∀ p N kvs H1, Ext H H1 → KAt K H1 p N M G kvs → IntV kvs → (∀ s, Say M s → domK kvs s) → Q (.ref p) H1) : tMake (He.ga K "Walk") (SpKInit K) [] E tr σ H Q :=
  h H (Ext.refl H) _ fun vs H2 e2 hs x dx hx hdx hne => by
    cases hs with | cons g1 hs => cases hs with | cons g2 hs =>
    cases hs
    have ea : Ext H2 (upd H2 dx (.own x)) := Ext.new hdx
    have hx2 : upd H2 dx (.own x) x = none := by rw [upd_ne (Ne.symm hne)]; exact hx
    have eb : Ext (upd H2 dx (.own x)) (upd (upd H2 dx (.own x)) x (.ins (He.ga K "Walk") dx [])) := Ext.new hx2
    have ec := ea.trans eb
    exact ⟨x, dx, _, _, M, G, m, rfl, upd_same, g1.to ec.kp, g2.to ec.kp, hH, fun H3 N kvs c nN hW hI hS => ⟨rfl, k x N kvs H3 (e2.trans ((ec.chg.trans c).new hx)) hW hI hS⟩⟩
theorem r_safe {TL : List Addr} {H : Hp} {σ : L2.St} {E : XK} {ta : TE} {Q : VK} (h : ta σ H fun x H1 => SpPaper K TL [x] H1 (fun v H2 => Q (.bl (!decide (v = .non))) H2) E) : tNotN (tCall (SpPaper K TL) [] E (tCons ta tNil)) σ H Q := h
theorem sc_is_safe : FnScope ["machine", "marks", "table"] ["machine", "marks", "table"] (defScope s_is_safe) := ⟨rfl, rfl, rfl, by decide +kernel, rfl, by decide +kernel, by decide +kernel⟩
theorem ok_is_safe (T : Txt w K mg base) : Ok P w K mg base 10 ("is_safe", none) ["machine", "marks", "table"] (SpSafe K (TL K)) := by
  obtain ⟨⟨fd_need_house, F_need_house, b_need_house⟩, k_need_house⟩ := ok_need_house (P := P) T
  obtain ⟨⟨fd_paper_of, F_paper_of, b_paper_of⟩, k_paper_of⟩ := ok_paper_of (P := P) T
  obtain ⟨⟨fd_k_init, F_k_init, b_k_init⟩, k_k_init⟩ := ok_k_init (P := P) T
  refine ok_of (k := 9) T.f_is_safe sc_is_safe (fun vs H Q E h => ?_) (fun _ _ _ _ _ _ us hl => match us, hl with | [_, _, _], _ => rfl) (fun cdv A outer s H vs Q E hr h => ?_)
  · obtain ⟨M, G, m, hi, _⟩ := h
    rw [hi.length]
    rfl
  · obtain ⟨M, G, m, hi, hT, hH, hQ⟩ := h
    cases hi with | cons h1 hi => cases hi with | cons h2 hi => cases hi with | cons h3 hi =>
    cases hi
    rename_i va vn vb
    refine ⟨_, (pss_cons (ps_expr (pe_call F_need_house (hr.mono (by decide)) (by rfl) T.g_need_house k_need_house b_need_house .nil pass0 (pa_cons (pv 0) (pa_cons (pv 1) (pa_cons (pv 2) pa_nil)))))
      (pss_one (ps_ret (pe_cmp (pc_notN (pe_call F_paper_of (hr.mono (by decide)) (by rfl) T.g_paper_of k_paper_of b_paper_of .nil pass0 (pa_cons (pe_make T.mk_Walk F_k_init (hr.mono (by decide)) (by rfl) T.g_Walk b_k_init .nil pass0 (pa_cons (pv 0) (pa_cons (pv 2) pa_nil))) pa_nil))) rfl)))), ?_⟩
    try dsimp only [cxOf, Cx.nox, Cx.wish]
    refine rd_start [some va, some vn, some vb] ?_
    refine q_drop (ed_call (ea_cons (ed_v h1) (ea_cons (ed_v h2) (ea_cons (ed_v h3) ea_nil))) hT (Kp.refl _) ⟨M, G, m, rfl, hH, rfl⟩) fun H1 e1 => ?_
    refine r_ret ?_
    refine r_safe (r_makeK (ea_cons (ed_v h1) (ea_cons (ed_v h3) ea_nil)) hH fun x N kvs H3 e13 hW hI hS => ?_)
    refine ⟨x, N, M, G, kvs, m, rfl, hT.to (e1.kp.trans e13.kp), hW, hI, hH, hS, fun v H4 e4 hv => ?_⟩
    exact hQ _ H4 (e1.trans (e13.trans e4)) fun z => hv (by simpa using z)
end
end K29
set_option Elab.async false
set_option linter.all false
set_option maxRecDepth 100000
set_option maxHeartbeats 4000000
/-! the law's draws: a number, one of some things -/
namespace K29
open PySem PySem.Spec PyProof.Rows L2
local macro_rules | `(tactic| walk_at "kp") => `(tactic| first | exact Kp.refl _ | assumption | exact Chg.kp (by assumption) | (refine Kp.trans ?_ (Chg.kp (by assumption)); walk_at "kp"))
local macro_rules | `(tactic| walk_at "ext") => `(tactic| first | exact Ext.refl _ | assumption | (refine Ext.trans ?_ (by assumption); walk_at "ext"))

section
variable {K : PySem.W.Frag} {H H' H0 H1 H2 : Hp} {σ : L2.St} {v x y z : V} {a b c d : Dt} {ds es : List Dt} {te ta tb tc tv : TE} {D : Ends} {tz : TS} {r : Addr} {E : XK}
/-- the script that is drawn from stands at r; what stood not in H0 may be changed -/
def RowAt (K : PySem.W.Frag) (H0 H : Hp) (r : Addr) : Prop := H0 r = none ∧ ∃ (sc : Addr) (ns : List Int) (pos : Nat) (st rest : Int), H r = some (.lst [.ref sc, .int pos, .int st, .int rest]) ∧ SqL K H sc (ns.map V.int) ∧ (H0 sc ≠ none ∨ ∀ H, SqL K H sc (ns.map V.int))
theorem sqL_chg {A : List Addr} {a : Addr} {xs : List V} (c : Chg A H H') (h : SqL K H a xs) (n : a ∉ A) : SqL K H' a xs := by
  rcases h with (h | ⟨o, h⟩) | h
  · exact .inl (.inl (c.obj a _ n h (by intro ps z; cases z)))
  · exact .inl (.inr ⟨o, c.obj a _ n h (by intro ps z; cases z)⟩)
  · exact .inr h
theorem RowAt.chg {A : List Addr} (h : RowAt K H0 H r) (c : Chg A H H') (hr : r ∉ A) (hA : ∀ a ∈ A, H0 a = none) : RowAt K H0 H' r := by
  obtain ⟨h0, sc, ns, pos, st, rest, h1, h2, h3⟩ := h
  refine ⟨h0, sc, ns, pos, st, rest, c.obj r _ hr h1 (by intro ps z; cases z), ?_, h3⟩
  rcases h3 with h3 | h3
  · exact sqL_chg c h2 fun z => h3 (hA _ z)
  · exact h3 _
theorem RowAt.to (h : RowAt K H0 H r) (e : Ext H H') : RowAt K H0 H' r := h.chg e (by simp) (by simp)
theorem RowAt.live (h : RowAt K H0 H r) : H r ≠ none := by
  obtain ⟨_, _, _, _, _, _, h1, _⟩ := h
  rw [h1]
  simp
theorem ev_ixV {l : Addr} {xs : List V} {i : Int} (h1 : EdV ta σ H (.ref l)) (h2 : Ed K tb σ H (.int i)) (hl : SqL K H l xs) (h : atI xs i = some v) : EdV (tOp (rIx K) ta tb) σ H v := fun H1 e Q q =>
  h1 H1 e _ fun H2 e2 => h2 H2 (e.trans e2) _ fun y H3 e3 q3 => by
    cases q3
    exact .inl ⟨_, _, i, v, rfl, rfl, (e.trans (e2.trans e3)).seqL hl, h, q H3 (e2.trans e3)⟩
theorem ed_ixI {l : Addr} {xs : List V} {i n : Int} (h1 : EdV ta σ H (.ref l)) (h2 : Ed K tb σ H (.int i)) (hl : SqL K H l xs) (h : atI xs i = some (.int n)) : Ed K (tOp (rIx K) ta tb) σ H (.int n) := fun H1 e Q q =>
  ev_ixV h1 h2 hl h H1 e _ fun H2 e2 => q _ H2 e2 (.int n)
theorem rd_modN {i j : Int} (h : j ≠ 0) : RD K (rI (fun _ j => j ≠ 0) fun i j => .int (i.fmod j)) (.int i) (.int j) (.int (i.fmod j)) := rd_now fun x y H1 hx hy Q q => by
  cases hx
  cases hy
  exact ⟨i, j, rfl, rfl, h, q _ (.int _)⟩
theorem rd_fdivN {i j : Int} (h : CDivN i j) : RD K (rI CDivN fun i j => .int (i.fdiv j)) (.int i) (.int j) (.int (i.fdiv j)) := rd_now fun x y H1 hx hy Q q => by
  cases hx
  cases hy
  exact ⟨i, j, rfl, rfl, h, q _ (.int _)⟩
theorem rd_mulC {i j : Int} (h : CMul i j) : RD K (rI CMul fun i j => .int (i * j)) (.int i) (.int j) (.int (i * j)) := rd_now fun x y H1 hx hy Q q => by
  cases hx
  cases hy
  exact ⟨i, j, rfl, rfl, h, q _ (.int _)⟩
theorem rd_powC {i j : Int} (h : CPow i j) : RD K (rI CPow fun i j => .int (i ^ j.toNat)) (.int i) (.int j) (.int (i ^ j.toNat)) := rd_now fun x y H1 hx hy Q q => by
  cases hx
  cases hy
  exact ⟨i, j, rfl, rfl, h, q _ (.int _)⟩
theorem ed_lenQ {l : Addr} {xs : List V} (h : EdV ta σ H (.ref l)) (hl : SqL K H l xs) : Ed K (tCB (rLenX K) (tCons ta tNil)) σ H (.int xs.length) := fun H1 e Q q =>
  h H1 e _ fun H2 e2 => ⟨_, _, rfl, .inl ⟨_, (e.trans e2).seqL hl, rfl⟩, q _ H2 e2 (.int _)⟩
/-- row[i] = n -/
theorem q_setI {l : Addr} {xs : List V} {i n : Int} {j : Nat} (hv : Ed K tv σ H (.int n)) (h1 : EdV ta σ H (.ref l)) (h2 : Ed K tb σ H (.int i)) (hl : H l = some (.lst xs)) (hj : ixN xs.length i = some j) (k : ∀ H1, Chg [l] H H1 → H1 l = some (.lst (xs.set j (.int n))) → tz D σ H1) : tSeq (tAsg tv (gSub ta tb rSetL)) tz D σ H :=
  hv H (Ext.refl H) _ fun v H1 e1 hv => by
    cases hv
    refine h1 H1 e1 _ fun H2 e2 => h2 H2 (e1.trans e2) _ fun y H3 e3 hy => ?_
    cases hy
    have h0 := (e1.trans (e2.trans e3)).get hl
    exact ⟨l, xs, i, j, rfl, rfl, h0, hj, k _ ((e1.trans (e2.trans e3)).chg.trans (Chg.put h0)) upd_same⟩
theorem st_setI {l : Addr} {xs : List V} {i n : Int} {j : Nat} (hv : Ed K tv σ H (.int n)) (h1 : EdV ta σ H (.ref l)) (h2 : Ed K tb σ H (.int i)) (hl : H l = some (.lst xs)) (hj : ixN xs.length i = some j) (k : ∀ H1, Chg [l] H H1 → H1 l = some (.lst (xs.set j (.int n))) → D.nx σ H1) : tAsg tv (gSub ta tb rSetL) D σ H :=
  hv H (Ext.refl H) _ fun v H1 e1 hv => by
    cases hv
    refine h1 H1 e1 _ fun H2 e2 => h2 H2 (e1.trans e2) _ fun y H3 e3 hy => ?_
    cases hy
    have h0 := (e1.trans (e2.trans e3)).get hl
    exact ⟨l, xs, i, j, rfl, rfl, h0, hj, k _ ((e1.trans (e2.trans e3)).chg.trans (Chg.put h0)) upd_same⟩
def SpTaken (K : PySem.W.Frag) : Sp := fun vs H Q _ => ∃ (r : Addr) (many : Nat) (H0 : Hp), vs = [.ref r, .int (many : Int)] ∧ 0 < many ∧ many ≤ 100 ∧ RowAt K H0 H r ∧ ∀ (z : Nat) H', z < many → Chg [r] H H' → RowAt K H0 H' r → Q (.int (z : Int)) H'
theorem fmod_nat {i : Int} {m : Nat} (h : 0 < m) : ∃ z : Nat, i.fmod (m : Int) = z ∧ z < m := by
  have h1 := Int.fmod_nonneg_of_pos i (show (0 : Int) < m by omega)
  have h2 := Int.fmod_lt_of_pos i (show (0 : Int) < m by omega)
  exact ⟨(i.fmod m).toNat, by omega, by omega⟩
end
section
variable {P : Program} {w : World} {K : PySem.W.Frag} {mg : Str → Option Value} {base : Heap}
theorem sc_law_taken : FnScope ["_law_row_here", "_law_many", "_law_found", "_law_cell"] ["_law_row_here", "_law_many"] (defScope s_law_taken) := ⟨rfl, rfl, rfl, by decide +kernel, rfl, by decide +kernel, by decide +kernel⟩
theorem ok_law_taken (T : Txt w K mg base) : Ok P w K mg base 1 ("_law_taken", none) ["_law_row_here", "_law_many"] (SpTaken K) := by
  refine ok_of (k := 0) T.f_law_taken sc_law_taken (fun vs H Q E h => ?_) (fun _ _ _ _ _ _ us hl => match us, hl with | [_, _], _ => rfl) (fun cdv A outer s H vs Q E hr h => ?_)
  · obtain ⟨r, many, H0, rfl, _⟩ := h
    rfl
  · obtain ⟨r, many, H0, rfl, hm, hm2, hR, hQ⟩ := h
    refine ⟨_, (pss_cons (ps_if (pt_cmpR op_gtX (pe_ix (r := rIx K) ix_seq (pv 0) pe_int (fun _ _ => rfl)) pe_int (nomark _)) (pss_cons (ps_set (i := 2) sc_law_taken.nd rfl (Or.inl rfl) (pe_op op_modN (pe_callTy (T := "int") (r := rIntX) call_intX (by rfl) T.g_int (by decide +kernel) (pa_cons (pe_ix (r := rIx K) ix_seq (pv 0) pe_int (fun _ _ => rfl)) pa_nil)) (pv 1)))
        (pss_cons (ps_asg (pe_op op_fdivN (pe_ix (r := rIx K) ix_seq (pv 0) pe_int (fun _ _ => rfl)) (pv 1)) (pg_sub (pv 0) pe_int set_list))
        (pss_one (ps_ret (pv 2))))) pss_nil)
      (pss_cons (ps_asg (pe_op (r := rAddX K) op_addX (pe_ix (r := rIx K) ix_seq (pv 0) pe_int (fun _ _ => rfl)) pe_int) (pg_sub (pv 0) pe_int set_list))
      (pss_cons (ps_if (pt_cmpR op_gtX (pe_ix (r := rIx K) ix_seq (pv 0) pe_int (fun _ _ => rfl)) (pe_callB (id := "len") (r := rLenX K) call_lenX (by rfl) T.g_len (by decide +kernel) (pa_cons (pe_ix (r := rIx K) ix_seq (pv 0) pe_int (fun _ _ => rfl)) pa_nil)) (nomark _)) (pss_cons (ps_asg (pe_op op_modN (pe_callTy (T := "int") (r := rIntX) call_intX (by rfl) T.g_int (by decide +kernel) (pa_cons (pe_op (r := rAddX K) op_addX (pe_op op_mul (pe_ix (r := rIx K) ix_seq (pv 0) pe_int (fun _ _ => rfl)) pe_int) pe_int) pa_nil)) pe_int) (pg_sub (pv 0) pe_int set_list))
        (pss_one (ps_ret (pe_op op_modN (pe_callTy (T := "int") (r := rIntX) call_intX (by rfl) T.g_int (by decide +kernel) (pa_cons (pe_op op_fdivN (pe_ix (r := rIx K) ix_seq (pv 0) pe_int (fun _ _ => rfl)) pe_int) pa_nil)) (pv 1))))) pss_nil)
      (pss_cons (ps_set (i := 3) sc_law_taken.nd rfl (Or.inl rfl) (pe_ix (r := rIx K) ix_seq (pe_ix (r := rIx K) ix_seq (pv 0) pe_int (fun _ _ => rfl)) (pe_op op_subX (pe_ix (r := rIx K) ix_seq (pv 0) pe_int (fun _ _ => rfl)) pe_int) (fun _ _ => rfl)))
      (pss_cons (ps_asg (pe_op op_modN (pe_callTy (T := "int") (r := rIntX) call_intX (by rfl) T.g_int (by decide +kernel) (pa_cons (pe_op (r := rAddX K) op_addX (pe_op (r := rAddX K) op_addX (pe_op op_mul (pe_ix (r := rIx K) ix_seq (pv 0) pe_int (fun _ _ => rfl)) pe_int) (pv 3)) pe_int) pa_nil)) pe_int) (pg_sub (pv 0) pe_int set_list))
      (pss_cons (ps_if (pt_cmpR op_geX (pv 3) (pe_op op_pow pe_int pe_int) (nomark _)) (pss_one (ps_asg (pe_op op_fdivN (pv 3) (pv 1)) (pg_sub (pv 0) pe_int set_list))) pss_nil)
      (pss_one (ps_ret (pe_op op_modN (pe_callTy (T := "int") (r := rIntX) call_intX (by rfl) T.g_int (by decide +kernel) (pa_cons (pv 3) pa_nil)) (pv 1)))))))))), ?_⟩
    try dsimp only [cxOf, Cx.nox, Cx.wish]
    refine rd_start [some (.ref r), some (.int (many : Int)), none, none] ?_
    obtain ⟨h0, sc, ns, pos, st, rest, h1, h2, h3⟩ := id hR
    have hsr : ∀ {H'}, Chg [r] H H' → SqL K H' sc (ns.map V.int) := fun {H'} c => by
      rcases h3 with h3 | h3
      · exact sqL_chg c h2 fun z => h3 (by rw [List.mem_singleton.mp z]; exact h0)
      · exact h3 _
    have rowOf : ∀ {H' pos' st' rest'}, Chg [r] H H' → H' r = some (.lst [.ref sc, .int ((pos' : Nat) : Int), .int st', .int rest']) → RowAt K H0 H' r := fun {H' pos' st' rest'} c e => ⟨h0, sc, ns, pos', st', rest', e, hsr c, h3⟩
    have hmi : ((many : Nat) : Int) ≠ 0 := by omega
    have hmd : ∀ i, CDivN i (many : Int) := fun i => ⟨hmi, by omega⟩
    have sq : ∀ {H xs}, H r = some (.lst xs) → SqL K H r xs := fun h => .inl (.inl h)
    refine q_if (et_test (ed_op (ed_ixI ev_v ed_int (sq h1) (by rfl)) ed_int rd_gt)) (fun _ H1 e1 => ?_) fun _ H1 e1 => ?_
    · have g1 := e1.get h1
      refine q_set (ed_op (ed_intI (ed_ixI ev_v ed_int (sq g1) (by rfl))) ed_vi (rd_modN hmi)) fun v H2 e2 hv => ?_
      cases hv
      refine rd_start' [some (.ref r), some (.int (many : Int)), some (.int (rest.fmod many)), none] ?_
      have g2 := e2.get g1
      refine q_setI (K := K) (ed_op (ed_ixI ev_v ed_int (sq g2) (by rfl)) ed_vi (rd_fdivN (hmd _))) ev_v ed_int g2 (by rfl) fun H3 c3 g3 => ?_
      obtain ⟨z, hz, hz2⟩ := fmod_nat (i := rest) hm
      rw [hz]
      have c := ((e1.trans e2).chg (A := [r])).trans c3
      exact st_ret (K := K) ed_vi fun v H4 e4 hv => by
        cases hv
        exact hQ z H4 hz2 (c.trans e4.chg) ((rowOf c g3).to e4)
    · dsimp only [tNext]
      have g1 := e1.get h1
      refine q_setI (K := K) (ed_op (ed_ixI ev_v ed_int (sq g1) (by rfl)) ed_int rd_addI) ev_v ed_int g1 (by rfl) fun H2 c2 g2 => ?_
      have c12 : Chg [r] H H2 := e1.chg.trans c2
      have g2 : H2 r = some (.lst [.ref sc, .int ((pos : Int) + 1), .int st, .int rest]) := g2
      have sc2 := hsr c12
      have hl2 : (ns.map V.int).length = ns.length := List.length_map ..
      refine q_if (et_test (ed_op (ed_ixI ev_v ed_int (sq g2) (by rfl)) (ed_lenQ (ev_ixV ev_v ed_int (sq g2) (by rfl)) sc2) rd_gt)) (fun z H3 e3 => ?_) fun z H3 e3 => ?_
      · have g3 := e3.get g2
        refine q_setI (K := K) (ed_op (ed_intI (ed_op (ed_op (ed_ixI ev_v ed_int (sq g3) (by rfl)) ed_int (rd_mulC (.inr (by decide)))) ed_int rd_addI)) ed_int (rd_modN (by decide))) ev_v ed_int g3 (by rfl) fun H4 c4 g4 => ?_
        have c14 : Chg [r] H H4 := (c12.trans e3.chg).trans c4
        refine st_ret (K := K) (ed_op (ed_intI (ed_op (ed_ixI ev_v ed_int (sq g4) (by rfl)) ed_int (rd_fdivN ⟨by decide, by decide⟩))) ed_vi (rd_modN hmi)) fun v H5 e5 hv => ?_
        cases hv
        obtain ⟨z, hz, hz2⟩ := fmod_nat (i := ((st * 48271 + 11).fmod 2147483647).fdiv 7) hm
        rw [hz]
        exact hQ z H5 hz2 (c14.trans e5.chg) ((rowOf (pos' := pos + 1) c14 g4).to e5)
      · dsimp only [tNext]
        have z2 := of_decide_eq_false z
        rw [hl2] at z2
        have g3 := e3.get g2
        have c13 : Chg [r] H H3 := c12.trans e3.chg
        have hp : pos < ns.length := by omega
        obtain ⟨n, hn⟩ : ∃ n, ns[pos]? = some n := ⟨_, List.getElem?_eq_getElem hp⟩
        have hat : atI (ns.map V.int) ((pos : Int) + 1 - 1) = some (.int n) := by
          rw [show (pos : Int) + 1 - 1 = (pos : Int) by omega]
          exact atI_nat (by rw [List.getElem?_map, hn]; rfl)
        refine q_set (ed_ixI (ev_ixV ev_v ed_int (sq g3) (by rfl)) (ed_op (ed_ixI ev_v ed_int (sq g3) (by rfl)) ed_int rd_sub) (hsr c13) hat) fun v H4 e4 hv => ?_
        cases hv
        refine rd_start' [some (.ref r), some (.int (many : Int)), none, some (.int n)] ?_
        have g4 := e4.get g3
        refine q_setI (K := K) (ed_op (ed_intI (ed_op (ed_op (ed_op (ed_ixI ev_v ed_int (sq g4) (by rfl)) ed_int (rd_mulC (.inr (by decide)))) ed_vi rd_addI) ed_int rd_addI)) ed_int (rd_modN (by decide))) ev_v ed_int g4 (by rfl) fun H5 c5 g5 => ?_
        have c15 : Chg [r] H H5 := (c13.trans e4.chg).trans c5
        have fin : ∀ {H6 pos' st' rest'}, Chg [r] H H6 → H6 r = some (.lst [.ref sc, .int ((pos' : Nat) : Int), .int st', .int rest']) → tRet (tOp (rI (fun _ j => j ≠ 0) fun i j => .int (i.fmod j)) (tCB rIntX (tCons (tVar 3) tNil)) (tVar 1)) { nx := fun _ H' => Q .non H', rt := Q } [some (.ref r), some (.int (many : Int)), none, some (.int n)] H6 := fun {H6 pos' st' rest'} c6 g6 => by
          refine st_ret (K := K) (ed_op (ed_intI ed_vi) ed_vi (rd_modN hmi)) fun v H7 e7 hv => ?_
          cases hv
          obtain ⟨z, hz, hz2⟩ := fmod_nat (i := n) hm
          rw [hz]
          exact hQ z H7 hz2 (c6.trans e7.chg) ((rowOf (pos' := pos') c6 g6).to e7)
        refine q_if (et_test (K := K) (ed_op ed_vi (ed_op ed_int ed_int (rd_powC ⟨by decide, by decide, by decide⟩)) rd_ge)) (fun z H6 e6 => ?_) fun z H6 e6 => ?_
        · have g6 := e6.get g5
          refine st_setI (K := K) (ed_op ed_vi ed_vi (rd_fdivN (hmd _))) ev_v ed_int g6 (by rfl) fun H7 c7 g7 => ?_
          exact fin (pos' := pos + 1) ((c15.trans e6.chg).trans c7) g7
        · exact fin (pos' := pos + 1) (c15.trans e6.chg) (e6.get g5)
theorem r_taken {H0 H : Hp} {σ : L2.St} {ta tb : TE} {r : Addr} {E : XK} {many : Nat} {Q : VK} (h1 : EdV ta σ H (.ref r)) (h2 : Ed K tb σ H (.int (many : Int))) (hm : 0 < many) (hm2 : many ≤ 100) (hR : RowAt K H0 H r) (k : ∀ (z : Nat) H', z < many → Chg [r] H H' → RowAt K H0 H' r → Q (.int (z : Int)) H') : tCall (SpTaken K) [] E (tCons ta (tCons tb tNil)) σ H Q :=
  h1 H (Ext.refl H) _ fun H1 e1 => h2 H1 e1 _ fun v H2 e2 hv => by
    cases hv
    exact ⟨r, many, H0, rfl, hm, hm2, hR.to (e1.trans e2), fun z H' hz c hR' => k z H' hz ((e1.trans e2).chg.trans c) hR'⟩
theorem r_op1 {H : Hp} {σ : L2.St} {ta tb : TE} {rr : R2} {x : V} {Q : VK} (h1 : EdV ta σ H x) (k : ∀ H1, Ext H H1 → tb σ H1 fun y H2 => rr x y H2 Q) : tOp rr ta tb σ H Q := h1 H (Ext.refl H) _ k
def SpPick (K : PySem.W.Frag) : Sp := fun vs H Q _ => ∃ (r l : Addr) (ds : List Dt) (H0 : Hp), vs = [.ref r, .ref l] ∧ LsM K H l ds ∧ l ≠ r ∧ 0 < ds.length ∧ ds.length ≤ 100 ∧ RowAt K H0 H r ∧ ∀ (v : V) (d : Dt) H', d ∈ ds → Im K H' v d → Chg [r] H H' → RowAt K H0 H' r → Q v H'
theorem sc_law_pick : FnScope ["_law_row_here", "_law_things"] ["_law_row_here", "_law_things"] (defScope s_law_pick) := ⟨rfl, rfl, rfl, by decide +kernel, rfl, by decide +kernel, by decide +kernel⟩
theorem ok_law_pick (T : Txt w K mg base) : Ok P w K mg base 2 ("_law_pick", none) ["_law_row_here", "_law_things"] (SpPick K) := by
  obtain ⟨⟨fd_law_taken, F_law_taken, b_law_taken⟩, k_law_taken⟩ := ok_law_taken (P := P) T
  refine ok_of (k := 1) T.f_law_pick sc_law_pick (fun vs H Q E h => ?_) (fun _ _ _ _ _ _ us hl => match us, hl with | [_, _], _ => rfl) (fun cdv A outer s H vs Q E hr h => ?_)
  · obtain ⟨r, l, ds, H0, rfl, _⟩ := h
    rfl
  · obtain ⟨r, l, ds, H0, rfl, hl, hlr, h1, h2, hR, hQ⟩ := h
    refine ⟨_, (pss_one (ps_ret (pe_ix (r := rIx K) ix_seq (pv 1) (pe_call F_law_taken (hr.mono (by decide)) (by rfl) T.g_law_taken k_law_taken b_law_taken .nil pass0 (pa_cons (pv 0) (pa_cons (pe_callB (id := "len") (r := rLenX K) call_lenX (by rfl) T.g_len (by decide +kernel) (pa_cons (pv 1) pa_nil)) pa_nil))) (fun _ _ => rfl)))), ?_⟩
    try dsimp only [cxOf, Cx.nox, Cx.wish]
    refine rd_start [some (.ref r), some (.ref l)] ?_
    refine r_ret (r_op1 ev_v fun H1 e1 => r_taken ev_v (ed_lenL (el_v (hl.to e1))) h1 h2 (hR.to e1) fun z H4 hz c4 hR4 => ?_)
    have e := e1
    obtain ⟨xs, s1, s2⟩ := (hl.to e).chg c4 (by simp [hlr])
    obtain ⟨d, hd⟩ : ∃ d, ds[z]? = some d := ⟨_, List.getElem?_eq_getElem hz⟩
    obtain ⟨v, ev, hv⟩ := s2.at (show atI ds (z : Int) = some d from atI_nat hd)
    exact .inl ⟨_, _, (z : Int), v, rfl, rfl, .inl (.inl s1), ev, hQ v d H4 (List.mem_of_getElem? hd) hv (e.chg.trans c4) hR4⟩
end
end K29
set_option Elab.async false
set_option linter.all false
set_option maxRecDepth 100000
set_option maxHeartbeats 4000000
/-! the law's draws: a machine -/
namespace K29
open PySem PySem.Spec PyProof.Rows L2
local macro_rules | `(tactic| walk_at "kp") => `(tactic| first | exact Kp.refl _ | assumption | exact Chg.kp (by assumption) | (refine Kp.trans ?_ (Chg.kp (by assumption)); walk_at "kp"))
local macro_rules | `(tactic| walk_at "ext") => `(tactic| first | exact Ext.refl _ | assumption | (refine Ext.trans ?_ (by assumption); walk_at "ext"))

section
variable {K : PySem.W.Frag} {H H' H0 H1 H2 : Hp} {σ : L2.St} {v x y z : V} {a b c d : Dt} {ds es : List Dt} {te ta tb tc tv : TE} {D : Ends} {tz : TS} {r : Addr} {E : XK} {Φ : Nat → Prop}
/-- a drawn number -/
def ErI (K : PySem.W.Frag) (H0 : Hp) (r : Addr) (te : TE) (σ : L2.St) (H : Hp) (Φ : Nat → Prop) : Prop := ∀ Q : VK, (∀ (z : Nat) H', Φ z → Chg [r] H H' → RowAt K H0 H' r → Q (.int (z : Int)) H') → te σ H Q
theorem er_taken {many : Nat} (h1 : EdV ta σ H (.ref r)) (h2 : Ed K tb σ H (.int (many : Int))) (hR : RowAt K H0 H r) (hm : 0 < many) (hm2 : many ≤ 100) : ErI K H0 r (tCall (SpTaken K) [] E (tCons ta (tCons tb tNil))) σ H (· < many) := fun Q k => r_taken h1 h2 hm hm2 hR k
theorem er_add {n : Nat} (h1 : Ed K ta σ H (.int (n : Int))) (h2 : ∀ H1, Ext H H1 → ErI K H0 r tb σ H1 Φ) : ErI K H0 r (tOp (rAddX K) ta tb) σ H (fun z => ∃ y, Φ y ∧ z = n + y) := fun Q k =>
  h1 H (Ext.refl H) _ fun v H1 e1 hv => by
    cases hv
    refine h2 H1 e1 _ fun z H2 hz c hR => ?_
    have q := k (n + z) H2 ⟨z, hz, rfl⟩ (e1.chg.trans c) hR
    rw [show ((n + z : Nat) : Int) = (n : Int) + (z : Int) by omega] at q
    exact .inl ⟨_, _, rfl, rfl, q⟩
theorem q_setR {i : Nat} (h : ErI K H0 r te σ H Φ) (k : ∀ (z : Nat) H1, Φ z → Chg [r] H H1 → RowAt K H0 H1 r → tz D (σ.set i (some (.int (z : Int)))) H1) : tSeq (tAsg te (gName i)) tz D σ H := h _ fun z H1 h1 h2 h3 => k z H1 h1 h2 h3
/-- a drawn number and a new list at once -/
theorem st_parR {i j : Nat} (h1 : ErI K H0 r ta σ H Φ) (h2 : ∀ H1, EdN K tb σ H1 ds) (k : ∀ (z : Nat) l H1, Φ z → Chg [r] H H1 → H l = none → l ≠ r → RowAt K H0 H1 r → LsM K H1 l ds → D.nx ((σ.set i (some (.int (z : Int)))).set j (some (.ref l))) H1) : tPar i j (tCons ta (tCons tb tNil)) D σ H := h1 _ fun z H1 hz c hR => h2 H1 H1 (Ext.refl _) _ fun l H2 e2 hl hx =>
  ⟨_, _, rfl, k z l H2 hz (c.trans e2.chg) (c.kpl hl) (fun q => hR.live (q ▸ hl)) (hR.to e2) hx⟩
theorem en_slL {tl th : TO} {lo hi : Option Int} (h : EdL K te σ H ds) (h1 : EdO tl σ H lo) (h2 : EdO th σ H hi) : EdN K (tSl (rSlX K) te tl th) σ H (cutD ds lo hi) := fun H1 e Q q =>
  h H1 e _ fun l H2 e2 hv => h1 H2 (e.trans e2) _ fun H3 e3 => h2 H3 (e.trans (e2.trans e3)) _ fun H4 e4 => by
    obtain ⟨xs, s1, s2⟩ := hv.to (e3.trans e4)
    refine .inr ⟨_, _, rfl, s1, fun p hp => ?_⟩
    have e5 : Ext H4 (upd H4 p (.lst (cutV xs lo hi))) := Ext.new hp
    exact q _ _ (e2.trans (e3.trans (e4.trans e5))) ((e2.trans (e3.trans e4)).free hp) ⟨_, upd_same, s2.cut.to e5.kp⟩
/-- over range of a drawn number -/
theorem st_forRI {tb : TS} {g : TG} (h : ErI K H0 r te σ H Φ) (hb : ∀ z, Φ z → z ≤ 100) (Pv : Nat → Nat → L2.St → Hp → Prop) (h0 : ∀ z H1, Φ z → Chg [r] H H1 → RowAt K H0 H1 r → Pv z 0 σ H1)
    (hs : ∀ z j σ' H', Φ z → j < z → Pv z j σ' H' → g (.int (j : Int)) σ' H' fun σ2 H2 => tb { D with nx := Pv z (j + 1), ct := Pv z (j + 1), bk := D.nx } σ2 H2) (hd : ∀ z σ' H', Φ z → Pv z z σ' H' → D.nx σ' H') : tFor (iRng1 (tCons te tNil)) g tb D σ H := h _ fun z H1 hz c hR => by
  have := hb z hz
  refine ⟨z, rfl, by omega, by omega, for_range (lo := 0) (n := ((z : Nat) : Int).toNat) (Pv z) (h0 z H1 hz c hR) (fun j σ' H' hj p => ?_) (fun σ' H' p => hd z σ' H' hz (by simpa using p))⟩
  have q := hs z j σ' H' hz (by omega) p
  rwa [show ((0 : Int) + (j : Int)) = (j : Int) by omega]
theorem r_pick {Q : VK} (h1 : EdV ta σ H (.ref r)) (h2 : EdN K tb σ H ds ∨ ∃ l, EdV tb σ H (.ref l) ∧ LsM K H l ds ∧ l ≠ r) (hm : 0 < ds.length) (hm2 : ds.length ≤ 100) (hR : RowAt K H0 H r) (k : ∀ (v : V) (d : Dt) H', d ∈ ds → Im K H' v d → Chg [r] H H' → RowAt K H0 H' r → Q v H') : tCall (SpPick K) [] E (tCons ta (tCons tb tNil)) σ H Q :=
  h1 H (Ext.refl H) _ fun H1 e1 => by
    rcases h2 with h2 | ⟨l, h2, hl, hlr⟩
    · exact h2 H1 e1 _ fun l H2 e2 hn hl => ⟨r, l, ds, H0, rfl, hl, fun q => (hR.to e1).live (q ▸ hn), hm, hm2, hR.to (e1.trans e2), fun v d H' hd hv c hR' => k v d H' hd hv ((e1.trans e2).chg.trans c) hR'⟩
    · exact h2 H1 e1 _ fun H2 e2 => ⟨r, l, ds, H0, rfl, hl.to (e1.trans e2), hlr, hm, hm2, hR.to (e1.trans e2), fun v d H' hd hv c hR' => k v d H' hd hv ((e1.trans e2).chg.trans c) hR'⟩
/-- l.append((drawn, datum)) -/
theorem st_appR {l : Addr} (hl : LsM K H l ds) (hlr : l ≠ r) (ha : EdV ta σ H (.ref l)) (h : ∀ H1, Ext H H1 → ErI K H0 r tb σ H1 Φ) (h2 : ∀ H1, Chg [r] H H1 → Ed K tc σ H1 d) (hz : ds.length < 1000000) (hl0 : H0 l = none) (k : ∀ (z : Nat) H1, Φ z → Chg [r, l] H H1 → RowAt K H0 H1 r → LsM K H1 l (ds ++ [.tup [eN z, d]]) → D.nx σ H1) :
    tDrop (tBM K "list" rAppend ta (tCons (tTup (tCons tb (tCons tc tNil))) tNil)) D σ H := ha H (Ext.refl H) _ fun H1 e1 => by
  obtain ⟨xs, a1, a2⟩ := hl.to e1
  refine ⟨Or.inl ⟨rfl, _, Or.inl (Or.inl a1)⟩, ?_⟩
  refine h H1 e1 _ fun z H2 hz2 c2 hR2 => ?_
  refine h2 H2 (e1.chg.trans c2) H2 (Ext.refl _) _ fun v H3 e3 hv => ?_
  refine ⟨by show 2 ≤ sizeLine; decide, fun t ht => ?_⟩
  have et : Ext H3 (upd H3 t (.tup [.int z, v])) := Ext.new ht
  have c4 : Chg [r] H1 (upd H3 t (.tup [.int z, v])) := c2.trans (e3.trans et).chg
  have b1 := c4.obj l _ (by simp [hlr]) a1 (by intro ps z; cases z)
  refine ⟨l, xs, .ref t, rfl, rfl, b1, Nat.lt_of_lt_of_le (by rw [a2.length]; exact hz) (by decide), ?_⟩
  have hv4 := hv.to et.kp
  have him : Im K (upd H3 t (.tup [.int z, v])) (.ref t) (.tup [eN z, d]) := .tup (.inl (.inl upd_same)) (.cons (.int _) (.cons hv4 .nil))
  have cl : Chg [l] (upd H3 t (.tup [.int z, v])) (upd (upd H3 t (.tup [.int z, v])) l (.lst (xs ++ [.ref t]))) := Chg.put b1
  exact k z _ hz2 ((e1.chg.trans (c4.mono (by simp))).trans (cl.mono (by simp))) (((hR2.to e3).to et).chg cl (by simp [Ne.symm hlr]) (fun b hb => by rw [List.mem_singleton.mp hb]; exact hl0)) (LsM.app (a2.to c4.kp) him b1)
end
end K29
set_option Elab.async false
set_option linter.all false
set_option maxRecDepth 100000
set_option maxHeartbeats 4000000
/-! the law's draws: a machine, the walk -/
namespace K29
open PySem PySem.Spec PyProof.Rows L2
local macro_rules | `(tactic| walk_at "kp") => `(tactic| first | exact Kp.refl _ | assumption | exact Chg.kp (by assumption) | (refine Kp.trans ?_ (Chg.kp (by assumption)); walk_at "kp"))
local macro_rules | `(tactic| walk_at "ext") => `(tactic| first | exact Ext.refl _ | assumption | (refine Ext.trans ?_ (by assumption); walk_at "ext"))

section
variable {P : Program} {w : World} {K : PySem.W.Frag} {mg : Str → Option Value} {base : Heap} {H H0 : Hp} {σ : L2.St} {t : TT} {ta tb te : TE} {v : V} {ds : List Dt} {D : Ends} {tz : TS}
theorem ev_ifT (h : EdT t σ H true) (h1 : EdV ta σ H v) : EdV (tIf t ta tb) σ H v := fun H1 e Q q => h H1 e _ fun H2 e2 => by
  rw [if_pos rfl]
  exact h1 H2 (e.trans e2) _ fun H3 e3 => q H3 (e2.trans e3)
theorem en_ifF (h : EdT t σ H false) (h1 : EdN K tb σ H ds) : EdN K (tIf t ta tb) σ H ds := el_if h (fun z => by cases z) fun _ => h1
theorem q_setX {i : Nat} (h : te σ H fun v H1 => tz D (σ.set i (some v)) H1) : tSeq (tAsg te (gName i)) tz D σ H := h
def MachOk (M : Mach) : Prop := 1 ≤ M.length ∧ M.length ≤ 2 ∧ ∀ st ∈ M, st.length ≤ 2 ∧ ∀ p ∈ st, p.1 < M.length ∧ WdOk p.2
def wds : List Wd := [none, some ("a" : Str), some ("b" : Str), some ("yes" : Str), some ("no" : Str), some ("ab" : Str)]
theorem wds_ok : ∀ u ∈ wds, WdOk u := by
  intro u hu
  unfold wds at hu
  simp only [List.mem_cons, List.not_mem_nil, or_false] at hu
  rcases hu with rfl | rfl | rfl | rfl | rfl | rfl <;> (intro s hs; cases hs)
  all_goals exact ⟨by decide +kernel, by decide +kernel, by decide +kernel, by decide +kernel, by decide +kernel⟩
theorem Chg.drop2 {H H1 : Hp} {r l : Addr} (c : Chg [r, l] H H1) (n : H l = none) : Chg [r] H H1 := ⟨c.kp, fun b o nb hb t => c.obj b o (fun z => by
  rcases List.mem_cons.mp z with z | z
  · exact nb (by simp [z])
  · rw [List.mem_singleton.mp z, n] at hb
    cases hb) hb t⟩
def SpMachine (K : PySem.W.Frag) : Sp := fun vs H Q _ => ∃ (r : Addr) (H0 : Hp), vs = [.ref r, .int (2 : Nat), .int (2 : Nat)] ∧ Kp H0 H ∧ RowAt K H0 H r ∧ ∀ (v : V) (M : Mach) H', MachOk M → Im K H' v (eM M) → Chg [r] H H' → RowAt K H0 H' r → Q v H'
theorem sc_law_machine : FnScope ["_law_row_here", "_law_most", "_law_options", "_law_many", "_law_found", "_law_words", "_law_way", "_law_state", "_law_lot", "_law_least_here", "_law_option", "_law_word"] ["_law_row_here", "_law_most", "_law_options"] (defScope s_law_machine) := ⟨rfl, rfl, rfl, by decide +kernel, rfl, by decide +kernel, by decide +kernel⟩
theorem ok_law_machine (T : Txt w K mg base) : Ok P w K mg base 3 ("_law_machine", none) ["_law_row_here", "_law_most", "_law_options"] (SpMachine K) := by
  obtain ⟨⟨fd_law_taken, F_law_taken, b_law_taken⟩, k_law_taken⟩ := ok_law_taken (P := P) T
  obtain ⟨⟨fd_law_pick, F_law_pick, b_law_pick⟩, k_law_pick⟩ := ok_law_pick (P := P) T
  refine ok_of (k := 2) T.f_law_machine sc_law_machine (fun vs H Q E h => ?_) (fun _ _ _ _ _ _ us hl => match us, hl with | [_, _, _], _ => rfl) (fun cdv A outer s H vs Q E hr h => ?_)
  · obtain ⟨r, H0, rfl, _⟩ := h
    rfl
  · obtain ⟨r, H0, rfl, hkp, hR, hQ⟩ := h
    refine ⟨_, (pss_cons (ps_par (i := 3) (j := 4) (by rfl) sc_law_machine.nd rfl rfl (by decide) rfl rfl (pa_cons (pe_op (r := rAddX K) op_addX pe_int (pe_call F_law_taken (hr.mono (by decide)) (by rfl) T.g_law_taken k_law_taken b_law_taken .nil pass0 (pa_cons (pv 0) (pa_cons (pv 1) pa_nil)))) (pa_cons (pe_lst pa_nil) pa_nil)) (by rfl))
      (pss_cons (ps_set (i := 5) sc_law_machine.nd rfl (Or.inl rfl) (pe_lst (pa_cons pe_non (pa_cons pe_str (pa_cons pe_str (pa_cons pe_str (pa_cons pe_str (pa_cons pe_str pa_nil))))))))
      (pss_cons (ps_set (i := 6) sc_law_machine.nd rfl (Or.inl rfl) (pe_call F_law_taken (hr.mono (by decide)) (by rfl) T.g_law_taken k_law_taken b_law_taken .nil pass0 (pa_cons (pv 0) (pa_cons pe_int pa_nil))))
      (pss_cons (ps_for PassesOwn.never rfl (pi_range1 (by rfl) T.g_range (pa_cons (pv 3) pa_nil)) (pg_name (i := 7) sc_law_machine.nd rfl (Or.inl rfl))
        (pss_cons (ps_set (i := 8) sc_law_machine.nd rfl (Or.inl rfl) (pe_lst pa_nil))
        (pss_cons (ps_set (i := 9) sc_law_machine.nd rfl (Or.inl rfl) (pe_callTy (T := "int") (r := rIntX) call_intX (by rfl) T.g_int (by decide +kernel) (pa_cons (pe_and (pe_cmpR (r := rEqD K) (op_eqD hr.units) (pv 7) pe_int (nomark _)) (pe_one (pe_cmpR op_gtX (pv 6) pe_int (nomark _)))) pa_nil)))
        (pss_cons (ps_for PassesOwn.never rfl (pi_range1 (by rfl) T.g_range (pa_cons (pe_op (r := rAddX K) op_addX (pv 9) (pe_call F_law_taken (hr.mono (by decide)) (by rfl) T.g_law_taken k_law_taken b_law_taken .nil pass0 (pa_cons (pv 0) (pa_cons (pe_op op_subX (pe_op (r := rAddX K) op_addX (pv 2) pe_int) (pv 9)) pa_nil)))) pa_nil)) (pg_name (i := 10) sc_law_machine.nd rfl (Or.inl rfl))
          (pss_cons (ps_set (i := 11) sc_law_machine.nd rfl (Or.inl rfl) (pe_call F_law_pick (hr.mono (by decide)) (by rfl) T.g_law_pick k_law_pick b_law_pick .nil pass0 (pa_cons (pv 0) (pa_cons (pe_ifExp (pt_cmpR op_ltX (pv 6) pe_int (nomark _)) (pv 5) (pe_slice (r := rSlX K) sl_X (pv 5) (po_some pe_int) po_none)) pa_nil))))
          (pss_one (ps_expr (pe_bm PySem.F.plainAttrs_list PySem.F.slot_list_append PySem.F.type_list_append mt_append (pv 8) (pa_cons (pe_tup (pa_cons (pe_call F_law_taken (hr.mono (by decide)) (by rfl) T.g_law_taken k_law_taken b_law_taken .nil pass0 (pa_cons (pv 0) (pa_cons (pv 3) pa_nil))) (pa_cons (pv 11) pa_nil))) pa_nil))))))
        (pss_one (ps_expr (pe_bm PySem.F.plainAttrs_list PySem.F.slot_list_append PySem.F.type_list_append mt_append (pv 4) (pa_cons (pe_callTy (T := "tuple") (r := rTupX K) call_tupX (by rfl) T.g_tuple (by decide +kernel) (pa_cons (pv 8) pa_nil)) pa_nil))))))))
      (pss_one (ps_ret (pe_callTy (T := "tuple") (r := rTupX K) call_tupX (by rfl) T.g_tuple (by decide +kernel) (pa_cons (pv 4) pa_nil)))))))), ?_⟩
    try dsimp only [cxOf, Cx.nox, Cx.wish]
    refine rd_start [some (.ref r), some (.int (2 : Nat)), some (.int (2 : Nat)), none, none, none, none, none, none, none, none, none] ?_
    refine q_seq (st_parR (er_add (n := 1) ed_int fun H1 e1 => er_taken ev_v (ed_vi (n := ((2 : Nat) : Int))) (hR.to e1) (by decide) (by decide)) (fun H1 => en_lst ea_nil (by simp)) fun many F H1 hmany c1 nF hFr hR1 hF => ?_)
    have hm1 : 1 ≤ many ∧ many ≤ 2 := by
      obtain ⟨y, hy, rfl⟩ := hmany
      omega
    refine rd_start' [some (.ref r), some (.int (2 : Nat)), some (.int (2 : Nat)), some (.int (many : Nat)), some (.ref F), none, none, none, none, none, none, none] ?_
    refine q_setN (K := K) (en_lst (ea_cons ed_non (ea_cons ed_str (ea_cons ed_str (ea_cons ed_str (ea_cons ed_str (ea_cons ed_str ea_nil)))))) (by simp)) fun W H2 e2 nW hW => ?_
    refine rd_start' [some (.ref r), some (.int (2 : Nat)), some (.int (2 : Nat)), some (.int (many : Nat)), some (.ref F), some (.ref W), none, none, none, none, none, none] ?_
    have hW : LsM K H2 W (wds.map eW) := hW
    have hR2 := hR1.to e2
    have hF2 := hF.to e2
    have hWr : W ≠ r := fun q => hR1.live (q ▸ nW)
    have hWF : W ≠ F := fun q => by
      obtain ⟨xs, h1, _⟩ := hF
      rw [← q, nW] at h1
      cases h1
    refine q_setR (er_taken (many := 3) ev_v ed_int hR2 (by decide) (by decide)) fun way H3 _ c3 hR3 => ?_
    refine rd_start' [some (.ref r), some (.int (2 : Nat)), some (.int (2 : Nat)), some (.int (many : Nat)), some (.ref F), some (.ref W), some (.int (way : Nat)), none, none, none, none, none] ?_
    have hW3 := hW.chg c3 (by simp [hWr])
    have hF3 := hF2.chg c3 (by simp [hFr])
    have kp3 : Kp H0 H3 := ((hkp.trans c1.kp).trans e2.kp).trans c3.kp
    have nF0 : H0 F = none := hkp.live _ nF
    refine q_seq (st_forR1 (K := K) (n := (many : Nat)) ed_vi (by omega) (by omega) (fun i σ' H' => ∃ (a b c d e : Option V) (sts : Mach), σ' = [some (.ref r), some (.int (2 : Nat)), some (.int (2 : Nat)), some (.int (many : Nat)), some (.ref F), some (.ref W), some (.int (way : Nat)), a, b, c, d, e] ∧ Chg [r, F] H3 H' ∧ RowAt K H0 H' r ∧ LsM K H' F (sts.map eSt) ∧ LsM K H' W (wds.map eW) ∧ sts.length = i ∧ ∀ st ∈ sts, st.length ≤ 2 ∧ ∀ p ∈ st, p.1 < many ∧ WdOk p.2)
      (fun H4 e4 => ⟨none, none, none, none, none, [], rfl, e4.chg, hR3.to e4, hF3.to e4, hW3.to e4, rfl, by simp⟩) ?_ ?_)
    · rintro i σ' H4 hi ⟨a, b, c, d, e, sts, rfl, c4, hR4, hF4, hW4, hlen, hok⟩
      refine g_nm [some (.ref r), some (.int (2 : Nat)), some (.int (2 : Nat)), some (.int (many : Nat)), some (.ref F), some (.ref W), some (.int (way : Nat)), some (.int (i : Nat)), b, c, d, e] ?_
      refine q_setN (K := K) (en_lst ea_nil (by simp)) fun L H5 e5 nL hL => ?_
      refine rd_start' [some (.ref r), some (.int (2 : Nat)), some (.int (2 : Nat)), some (.int (many : Nat)), some (.ref F), some (.ref W), some (.int (way : Nat)), some (.int (i : Nat)), some (.ref L), c, d, e] ?_
      have nL0 : H0 L = none := (kp3.trans c4.kp).live _ nL
      have hLr : L ≠ r := fun q => hR4.live (q ▸ nL)
      have hLF : L ≠ F := fun q => by
        obtain ⟨xs, h1, _⟩ := hF4
        rw [← q, nL] at h1
        cases h1
      have hLW : L ≠ W := fun q => by
        obtain ⟨xs, h1, _⟩ := hW4
        rw [← q, nL] at h1
        cases h1
      refine q_set (ed_intB (K := K) (ed_andV (ed_op ed_vi ed_int (rd_eq (n := 0) (m := 0) (k := decide (i = 0)) rfl rfl (by simp))) fun _ => ed_op ed_vi ed_int rd_gt)) fun vl H6 e6 hvl => ?_
      obtain ⟨lz, hlz, hlz2⟩ : ∃ lz : Nat, lz ≤ 1 ∧ (if (decide (i = 0) && decide ((0 : Int) < ((way : Nat) : Int))) = true then (1 : Int) else 0) = (lz : Int) := by
        split
        · exact ⟨1, by omega, rfl⟩
        · exact ⟨0, by omega, rfl⟩
      rw [hlz2] at hvl
      cases hvl
      refine rd_start' [some (.ref r), some (.int (2 : Nat)), some (.int (2 : Nat)), some (.int (many : Nat)), some (.ref F), some (.ref W), some (.int (way : Nat)), some (.int (i : Nat)), some (.ref L), some (.int (lz : Nat)), d, e] ?_
      have e46 := e5.trans e6
      have hR6 := hR4.to e46
      have hF6 := hF4.to e46
      have hW6 := hW4.to e46
      have hL6 := hL.to e6
      refine q_seq (st_forRI (er_add (n := lz) (ed_vi (K := K)) fun H7 e7 => er_taken (many := 3 - lz) ev_v (Ed.is (ed_op (ed_op ed_vi ed_int rd_addI) ed_vi rd_sub) (congrArg Dt.int (by omega))) (hR6.to e7) (by omega) (by omega)) (fun z hz => by
        obtain ⟨y, hy, rfl⟩ := hz
        omega) (fun z j σ' H' => ∃ (d e : Option V) (st : List (Nat × Wd)), σ' = [some (.ref r), some (.int (2 : Nat)), some (.int (2 : Nat)), some (.int (many : Nat)), some (.ref F), some (.ref W), some (.int (way : Nat)), some (.int (i : Nat)), some (.ref L), some (.int (lz : Nat)), d, e] ∧ Chg [r, L] H6 H' ∧ RowAt K H0 H' r ∧ LsM K H' L (st.map eO) ∧ st.length = j ∧ ∀ p ∈ st, p.1 < many ∧ WdOk p.2)
        (fun z H7 _ c7 hR7 => ⟨d, e, [], rfl, c7.mono (by simp), hR7, hL6.chg c7 (by simp [hLr]), rfl, by simp⟩) ?_ ?_)
      · rintro z j σ' H7 hz hj ⟨d, e, st, rfl, c7, hR7, hL7, hlen7, hok7⟩
        refine g_nm [some (.ref r), some (.int (2 : Nat)), some (.int (2 : Nat)), some (.int (many : Nat)), some (.ref F), some (.ref W), some (.int (way : Nat)), some (.int (i : Nat)), some (.ref L), some (.int (lz : Nat)), some (.int (j : Nat)), e] ?_
        have hW7 := hW6.chg c7 (by simp [hWr, Ne.symm hLW])
        have hz2 : z ≤ 2 := by
          obtain ⟨y, hy, rfl⟩ := hz
          omega
        obtain ⟨ds, hds, hds2, hsrc⟩ : ∃ ds : List Dt, (0 < ds.length ∧ ds.length ≤ 100) ∧ (∀ d ∈ ds, ∃ u ∈ wds, d = eW u) ∧ (EdN K (tIf (tTest (tOp rLtX (tVar 6) (tC (.int 2)))) (tVar 5) (tSl (rSlX K) (tVar 5) (tPart (tC (.int 1))) tNoPart)) [some (.ref r), some (.int (2 : Nat)), some (.int (2 : Nat)), some (.int (many : Nat)), some (.ref F), some (.ref W), some (.int (way : Nat)), some (.int (i : Nat)), some (.ref L), some (.int (lz : Nat)), some (.int (j : Nat)), e] H7 ds ∨ ∃ l, EdV (tIf (tTest (tOp rLtX (tVar 6) (tC (.int 2)))) (tVar 5) (tSl (rSlX K) (tVar 5) (tPart (tC (.int 1))) tNoPart)) [some (.ref r), some (.int (2 : Nat)), some (.int (2 : Nat)), some (.int (many : Nat)), some (.ref F), some (.ref W), some (.int (way : Nat)), some (.int (i : Nat)), some (.ref L), some (.int (lz : Nat)), some (.int (j : Nat)), e] H7 (.ref l) ∧ LsM K H7 l ds ∧ l ≠ r) := by
          by_cases hw : way < 2
          · refine ⟨wds.map eW, ⟨by decide, by decide⟩, fun d hd => ?_, .inr ⟨W, ev_ifT (et_test (K := K) (Ed.is (ed_op ed_vi ed_int rd_lt) (congrArg Dt.bl (decide_eq_true (by omega))))) ev_v, hW7, hWr⟩⟩
            obtain ⟨u, hu, rfl⟩ := List.mem_map.mp hd
            exact ⟨u, hu, rfl⟩
          · refine ⟨cutD (wds.map eW) (some 1) none, ⟨by decide, by decide⟩, fun d hd => ?_, .inl (en_ifF (et_test (K := K) (Ed.is (ed_op ed_vi ed_int rd_lt) (congrArg Dt.bl (decide_eq_false (by omega))))) (en_slL (el_v hW7) (eo_some (K := K) ed_int) eo_none))⟩
            have hd2 : d ∈ wds.map eW := List.mem_of_mem_drop (List.mem_of_mem_take hd)
            obtain ⟨u, hu, rfl⟩ := List.mem_map.mp hd2
            exact ⟨u, hu, rfl⟩
        refine q_setX (r_pick ev_v hsrc hds.1 hds.2 hR7 fun v d H8 hd hv c8 hR8 => ?_)
        obtain ⟨u, hu, rfl⟩ := hds2 d hd
        refine rd_start' [some (.ref r), some (.int (2 : Nat)), some (.int (2 : Nat)), some (.int (many : Nat)), some (.ref F), some (.ref W), some (.int (way : Nat)), some (.int (i : Nat)), some (.ref L), some (.int (lz : Nat)), some (.int (j : Nat)), some v] ?_
        have hL8 := hL7.chg c8 (by simp [hLr])
        refine st_appR hL8 hLr ev_v (fun H9 e9 => er_taken ev_v (ed_vi (n := (many : Nat))) (hR8.to e9) (by omega) (by omega)) (fun H9 c9 => ed_v (hv.to c9.kp)) (by rw [List.length_map]; omega) nL0 fun t H9 ht c9 hR9 hL9 => ?_
        refine ⟨_, _, st ++ [(t, u)], rfl, (c7.trans (c8.mono (by simp))).trans c9, hR9, by rw [List.map_append]; exact hL9, by simp [hlen7], fun p hp => ?_⟩
        rcases List.mem_append.mp hp with hp | hp
        · exact hok7 p hp
        · rw [List.mem_singleton.mp hp]
          exact ⟨ht, wds_ok u hu⟩
      · rintro z σ' H7 hz ⟨d, e, st, rfl, c7, hR7, hL7, hlen7, hok7⟩
        have hz2 : z ≤ 2 := by
          obtain ⟨y, hy, rfl⟩ := hz
          omega
        have hF7 := hF6.chg c7 (by simp [hFr, Ne.symm hLF])
        refine st_app (K := K) (d := eSt st) hF7 ev_v (ed_tupL (el_v hL7)) (by rw [List.length_map]; omega) fun H8 c8 hF8 => ?_
        have c47 : Chg [r] H4 H7 := Chg.drop2 (e46.chg.trans c7) nL
        have cc : Chg [r, F] H4 H8 := (c47.mono (by simp)).trans (c8.mono (by simp))
        refine ⟨_, _, _, _, _, sts ++ [st], rfl, c4.trans cc, hR7.chg c8 (by simp [Ne.symm hFr]) (fun b hb => by rw [List.mem_singleton.mp hb]; exact nF0), by rw [List.map_append]; exact hF8, hW4.chg cc (by simp [hWr, hWF]), by simp [hlen], fun x hx => ?_⟩
        rcases List.mem_append.mp hx with hx | hx
        · exact hok x hx
        · rw [List.mem_singleton.mp hx]
          exact ⟨by omega, hok7⟩
    · rintro σ' H4 ⟨a, b, c, d, e, sts, rfl, c4, hR4, hF4, hW4, hlen, hok⟩
      refine st_ret (K := K) (ed_tupL (el_v hF4)) fun v H5 e5 hv => ?_
      have hlen : sts.length = many := by simpa using hlen
      refine hQ v sts H5 ⟨by omega, by omega, fun st hst => ⟨(hok st hst).1, by rw [hlen]; exact (hok st hst).2⟩⟩ hv (((c1.trans (e2.chg.trans c3)).mono (by simp) |>.trans (c4.trans e5.chg)).drop2 nF) (hR4.to e5)
end
end K29
set_option Elab.async false
set_option linter.all false
set_option maxRecDepth 100000
set_option maxHeartbeats 4000000
/-! the law's draws: a row, all rows -/
namespace K29
open PySem PySem.Spec PyProof.Rows L2
local macro_rules | `(tactic| walk_at "kp") => `(tactic| first | exact Kp.refl _ | assumption | exact Chg.kp (by assumption) | (refine Kp.trans ?_ (Chg.kp (by assumption)); walk_at "kp"))
local macro_rules | `(tactic| walk_at "ext") => `(tactic| first | exact Ext.refl _ | assumption | (refine Ext.trans ?_ (by assumption); walk_at "ext"))

section
variable {K : PySem.W.Frag} {H H' H0 H1 H2 : Hp} {σ : L2.St} {v x y z : V} {a b c d : Dt} {ds es : List Dt} {te ti ta tb tc tv : TE} {D : Ends} {tz : TS} {r : Addr} {E : XK} {Φ : Nat → Prop} {Ψ : Dt → Prop} {vs : List Nat}
/-- a drawn datum -/
def ErD (K : PySem.W.Frag) (H0 : Hp) (r : Addr) (te : TE) (σ : L2.St) (H : Hp) (Ψ : Dt → Prop) : Prop := ∀ Q : VK, (∀ (v : V) (d : Dt) H', Ψ d → Im K H' v d → Chg [r] H H' → RowAt K H0 H' r → Q v H') → te σ H Q
theorem ErI.erD (h : ErI K H0 r te σ H Φ) : ErD K H0 r te σ H (fun d => ∃ n, Φ n ∧ d = eN n) := fun Q k => h Q fun z H' hz c hR => k _ _ H' ⟨z, hz, rfl⟩ (.int _) c hR
theorem r_tupC {Q : VK} (h : te σ H fun x H1 => rTupX K [x] H1 Q) : tCB (rTupX K) (tCons te tNil) σ H Q := h
theorem tup_of {Q : VK} {l : Addr} (hl : LsM K H l ds) (k : ∀ v H2, Ext H H2 → Im K H2 v (.tup ds) → Q v H2) : rTupX K [.ref l] H Q := by
  obtain ⟨xs, s1, s2⟩ := hl
  refine ⟨_, _, rfl, .inl ⟨.inl (.inl s1), fun p hp => ?_⟩⟩
  have e3 : Ext H (upd H p (.tup xs)) := Ext.new hp
  exact k _ _ e3 (.tup (.inl (.inl upd_same)) (s2.to e3.kp))
def LcD (K : PySem.W.Frag) (H0 : Hp) (r : Addr) (Dn : Addr) (H1 : Hp) (Ψ : Dt → Prop) (j : Nat) (H' : Hp) : Prop := ∃ ds : List Dt, Chg [r] H1 H' ∧ RowAt K H0 H' r ∧ LsM K H' Dn ds ∧ ds.length = j ∧ ∀ d ∈ ds, Ψ d
theorem lcD_turn {i j : Nat} {Dn : Addr} (hv : ∀ v, wipe ((wipe σ vs).set i (some v)) vs = wipe σ vs) (hn : H1 Dn = none) (h0 : H0 Dn = none) (hj : j < 100) (p : LcD K H0 r Dn H1 Ψ j H) (hne : Dn ≠ r) (hb : ∀ H3, Chg [r] H1 H3 → RowAt K H0 H3 r → ErD K H0 r te ((wipe σ vs).set i (some v)) H3 Ψ) :
    gName i v (wipe σ vs) H fun σ2 H2 => wipe σ2 vs = wipe σ vs ∧ tYes σ2 H2 fun b H3 => if b = true then te σ2 H3 fun y H4 => ∃ xs, H4 Dn = some (.lst xs) ∧ xs.length < sizeLine ∧ LcD K H0 r Dn H1 Ψ (j + 1) (upd H4 Dn (.lst (xs ++ [y]))) else LcD K H0 r Dn H1 Ψ (j + 1) H3 := by
  obtain ⟨ds, c1, hR, hl, hlen, hok⟩ := p
  refine ⟨hv v, ?_⟩
  refine et_yes H (Ext.refl H) _ fun H3 e3 => ?_
  rw [if_pos rfl]
  refine hb H3 (c1.trans e3.chg) (hR.to e3) _ fun y d H4 hd hy c0 hR4 => ?_
  have c := e3.chg.trans c0
  obtain ⟨xs, x1, x2⟩ := hl.chg c (by simp [hne])
  have cp : Chg [Dn] H4 (upd H4 Dn (.lst (xs ++ [y]))) := Chg.put x1
  refine ⟨xs, x1, Nat.lt_of_lt_of_le (by rw [x2.length, hlen]; omega) (by decide : 100 ≤ sizeLine), ds ++ [d], Chg.drop2 (((c1.trans c).mono (by simp)).trans (cp.mono (by simp))) hn, hR4.chg cp (by simp [Ne.symm hne]) (fun b hb => by rw [List.mem_singleton.mp hb]; exact h0), LsM.app x2 hy x1, by simp [hlen], fun e he => ?_⟩
  rcases List.mem_append.mp he with he | he
  · exact hok e he
  · rw [List.mem_singleton.mp he]
    exact hd
/-- a comprehension over range of a number drawn that is known, each item drawn -/
theorem r_lcD1 {i n : Nat} {Q : VK} (h : ErI K H0 r ti σ H (· = n)) (hn : n ≤ 100) (hkp : Kp H0 H) (hv : ∀ v, wipe ((wipe σ vs).set i (some v)) vs = wipe σ vs) (hb : ∀ (j : Nat) H1, j < n → Chg [r] H H1 → RowAt K H0 H1 r → ErD K H0 r te ((wipe σ vs).set i (some (.int (j : Int)))) H1 Ψ)
    (k : ∀ l ds H1, ds.length = n → (∀ d ∈ ds, Ψ d) → H l = none → Chg [r] H H1 → RowAt K H0 H1 r → LsM K H1 l ds → Q (.ref l) H1) : tLc (iRng1 (tCons ti tNil)) (gName i) tYes te vs σ H Q := h _ fun z H1 hz c hR => by
  subst hz
  refine ⟨z, rfl, by omega, by omega, fun Dn hD => ?_⟩
  have hne : Dn ≠ r := fun q => hR.live (q ▸ hD)
  have e3 : Ext H1 (upd H1 Dn (.lst [])) := Ext.new hD
  rw [show ((z : Int)).toNat = z by omega]
  refine lc_range (fun j H' => LcD K H0 r Dn H1 Ψ j H') ⟨[], e3.chg, hR.to e3, ⟨[], upd_same, .nil⟩, rfl, by simp⟩ (fun j H' hj p => ?_) fun H' p => ?_
  · have q := lcD_turn (v := .int (j : Nat)) hv hD (hkp.live _ (c.kpl hD)) (by omega) p hne fun H3 c3 hR3 => hb j H3 hj (c.trans c3) hR3
    rwa [show ((0 : Int) + (j : Int)) = (j : Int) by omega]
  · obtain ⟨ds, c1, hR1, hl, hlen, hok⟩ := p
    exact k Dn ds H' hlen hok (c.kpl hD) (c.trans c1) hR1 hl
/-- a comprehension over a tuple, each item drawn -/
theorem r_lcDT {i : Nat} {Q : VK} (h : Ed K ti σ H (.tup es)) (hn : es.length ≤ 100) (hR : RowAt K H0 H r) (hkp : Kp H0 H) (hv : ∀ v, wipe ((wipe σ vs).set i (some v)) vs = wipe σ vs) (hb : ∀ (v : V) H1, Chg [r] H H1 → RowAt K H0 H1 r → ErD K H0 r te ((wipe σ vs).set i (some v)) H1 Ψ)
    (k : ∀ l ds H1, ds.length = es.length → (∀ d ∈ ds, Ψ d) → H l = none → Chg [r] H H1 → RowAt K H0 H1 r → LsM K H1 l ds → Q (.ref l) H1) : tLc (iTup K ti) (gName i) tYes te vs σ H Q := h H (Ext.refl H) _ fun v H1 e1 hv1 => by
  cases hv1 with
  | tup s1 s2 =>
    rename_i a xs
    refine ⟨a, rfl, ⟨xs, s1⟩, fun Dn hD => ?_⟩
    have hR1 := hR.to e1
    have hne : Dn ≠ r := fun q => hR1.live (q ▸ hD)
    have e3 : Ext H1 (upd H1 Dn (.lst [])) := Ext.new hD
    refine lc_tup (fun j H' => LcD K H0 r Dn H1 Ψ j H') ⟨[], e3.chg, hR1.to e3, ⟨[], upd_same, .nil⟩, rfl, by simp⟩ (fun j H' _ p => p.choose_spec.1.kp.sqT s1) (fun j x H' hx p => ?_) fun H' p => ?_
    · have hj : j < xs.length := (List.getElem?_eq_some_iff.mp hx).1
      rw [s2.length] at hj
      exact lcD_turn hv hD (hkp.live _ (e1.free hD)) (by omega) p hne fun H3 c3 hR3 => hb x H3 (e1.chg.trans c3) hR3
    · obtain ⟨ds, c1, hR1, hl, hlen, hok⟩ := p
      exact k Dn ds H' (hlen.trans s2.length) hok (e1.free hD) (e1.chg.trans c1) hR1 hl
end
section
variable {P : Program} {w : World} {K : PySem.W.Frag} {mg : Str → Option Value} {base : Heap}
def SpRow (K : PySem.W.Frag) : Sp := fun vs H Q _ => ∃ (r : Addr) (m : Nat) (H0 : Hp), vs = [.ref r, .int (m : Nat), .int (1 : Nat)] ∧ 1 ≤ m ∧ m ≤ 2 ∧ Kp H0 H ∧ RowAt K H0 H r ∧ ∀ (v : V) (x : Nat) H', x < m → Im K H' v (eL [x]) → Chg [r] H H' → RowAt K H0 H' r → Q v H'
theorem sc_law_row : FnScope ["_law_row_here", "_law_marks", "_law_most", "_law_place"] ["_law_row_here", "_law_marks", "_law_most"] (defScope s_law_row) := ⟨rfl, rfl, rfl, by decide +kernel, rfl, by decide +kernel, by decide +kernel⟩
theorem ok_law_row (T : Txt w K mg base) : Ok P w K mg base 3 ("_law_row", none) ["_law_row_here", "_law_marks", "_law_most"] (SpRow K) := by
  obtain ⟨⟨fd_law_taken, F_law_taken, b_law_taken⟩, k_law_taken⟩ := ok_law_taken (P := P) T
  refine ok_of (k := 2) T.f_law_row sc_law_row (fun vs H Q E h => ?_) (fun _ _ _ _ _ _ us hl => match us, hl with | [_, _, _], _ => rfl) (fun cdv A outer s H vs Q E hr h => ?_)
  · obtain ⟨r, m, H0, rfl, _⟩ := h
    rfl
  · obtain ⟨r, m, H0, rfl, h1, h2, hkp, hR, hQ⟩ := h
    refine ⟨_, (pss_one (ps_ret (pe_callTy (T := "tuple") (r := rTupX K) call_tupX (by rfl) T.g_tuple (by decide +kernel) (pa_cons (pe_lc (own := [("_law_place", 3)]) rfl sc_law_row.nd (pi_range1 (by rfl) T.g_range (pa_cons (pe_op (r := rAddX K) op_addX pe_int (pe_call F_law_taken (hr.mono (by decide)) (by rfl) T.g_law_taken k_law_taken b_law_taken .nil pass0 (pa_cons (pv 0) (pa_cons (pv 2) pa_nil)))) pa_nil)) (blkOk_by (N := ["_law_row_here", "_law_marks", "_law_most", "_law_place"]) (sc := defScope s_law_row) (by decide +kernel)) (fun _ _ _ _ _ => (pg_name (i := 3) sc_law_row.nd rfl (Or.inl rfl))) (fun _ _ _ _ _ => pts_nil) (fun _ _ _ _ _ => (pe_call F_law_taken (hr.mono (by decide)) (by rfl) T.g_law_taken k_law_taken b_law_taken .nil pass0 (pa_cons (pv 0) (pa_cons (pv 1) pa_nil))))) pa_nil)))), ?_⟩
    try dsimp only [cxOf, Cx.nox, Cx.wish]
    refine rd_start [some (.ref r), some (.int (m : Nat)), some (.int (1 : Nat)), none] ?_
    refine r_ret (r_tupC (r_lcD1 (n := 1) (Ψ := fun d => ∃ x, x < m ∧ d = eN x) (fun Q k => er_add (n := 1) (ed_int (K := K)) (fun H1 e1 => er_taken ev_v (ed_vi (n := ((1 : Nat) : Int))) (hR.to e1) (by decide) (by decide)) Q fun z H' hz c hR' => k z H' (by obtain ⟨y, hy, rfl⟩ := hz; omega) c hR') (by decide) hkp (fun v => rfl) (fun j H1 hj c1 hR1 => (er_taken ev_v (ed_vi (n := ((m : Nat) : Int))) hR1 (by omega) (by omega)).erD) fun l ds H1 hlen hok nl c1 hR1 hl => ?_))
    match ds, hlen, hok, hl with
    | [d], _, hok, hl =>
      obtain ⟨x, hx, rfl⟩ := hok d (by simp)
      exact tup_of hl fun v H2 e2 hv => hQ v x H2 hx hv (c1.trans e2.chg) (hR1.to e2)
end
end K29
set_option Elab.async false
set_option linter.all false
set_option maxRecDepth 100000
set_option maxHeartbeats 4000000
/-! the law's draws: all rows of one mark -/
namespace K29
open PySem PySem.Spec PyProof.Rows L2
local macro_rules | `(tactic| walk_at "kp") => `(tactic| first | exact Kp.refl _ | assumption | exact Chg.kp (by assumption) | (refine Kp.trans ?_ (Chg.kp (by assumption)); walk_at "kp"))
local macro_rules | `(tactic| walk_at "ext") => `(tactic| first | exact Ext.refl _ | assumption | (refine Ext.trans ?_ (by assumption); walk_at "ext"))

section
variable {P : Program} {w : World} {K : PySem.W.Frag} {mg : Str → Option Value} {base : Heap}
theorem st_setX {D : Ends} {te : TE} {σ : L2.St} {H : Hp} {i : Nat} (h : te σ H fun v H1 => D.nx (σ.set i (some v)) H1) : tAsg te (gName i) D σ H := h
theorem st_setV {D : Ends} {te : TE} {σ : L2.St} {H : Hp} {i : Nat} {v : V} (h : EdV te σ H v) (k : ∀ H1, Ext H H1 → D.nx (σ.set i (some v)) H1) : tAsg te (gName i) D σ H := h H (Ext.refl H) _ k
def R_law_every (ds : List Dt) (es : List Dt) : Prop := ds = [eN 2, eN 1] ∧ es = [eL [0], eL [1]]
theorem sc_law_every : FnScope ["_law_marks", "_law_length", "_law_found", "_law_place", "_law_longer", "_law_one", "_law_mark"] ["_law_marks", "_law_length"] (defScope s_law_every) := ⟨rfl, rfl, rfl, by decide +kernel, rfl, by decide +kernel, by decide +kernel⟩
theorem ok_law_every (T : Txt w K mg base) : Ok P w K mg base 1 ("_law_every", none) ["_law_marks", "_law_length"] (SpG K (TL K) R_law_every) := by
  refine ok_of (k := 0) T.f_law_every sc_law_every (fun vs H Q E h => ?_) (fun _ _ _ _ _ _ us hl => match us, hl with | [_, _], _ => rfl) (fun cdv A outer s H vs Q E hr h => ?_)
  · obtain ⟨ds, es, hi, _, ⟨rfl, _⟩, _⟩ := h
    rw [hi.length]
    rfl
  · obtain ⟨ds, es, hi, hT, ⟨rfl, rfl⟩, hQ⟩ := h
    cases hi with | cons h1 hi => cases hi with | cons h2 hi =>
    cases hi
    cases h1
    cases h2
    refine ⟨_, (pss_cons (ps_set (i := 2) sc_law_every.nd rfl (Or.inl rfl) (pe_lst (pa_cons (pe_tup pa_nil) pa_nil)))
      (pss_cons (ps_for PassesOwn.never rfl (pi_range1 (by rfl) T.g_range (pa_cons (pv 1) pa_nil)) (pg_name (i := 3) sc_law_every.nd rfl (Or.inl rfl))
        (pss_cons (ps_set (i := 4) sc_law_every.nd rfl (Or.inl rfl) (pe_lst pa_nil))
        (pss_cons (ps_for PassesOwn.never rfl (pi_list (pv 2)) (pg_name (i := 5) sc_law_every.nd rfl (Or.inr rfl))
          (pss_one (ps_set (i := 4) sc_law_every.nd rfl (Or.inl rfl) (pe_op (r := rAddX K) op_addX (pv 4) (pe_lc (own := [("_law_mark", 6)]) rfl sc_law_every.nd (pi_range1 (by rfl) T.g_range (pa_cons (pv 0) pa_nil)) (blkOk_by (N := ["_law_marks", "_law_length", "_law_found", "_law_place", "_law_longer", "_law_one", "_law_mark"]) (sc := defScope s_law_every) (by decide +kernel)) (fun _ _ _ _ _ => (pg_name (i := 6) sc_law_every.nd rfl (Or.inl rfl))) (fun _ _ _ _ _ => pts_nil) (fun _ _ _ _ _ => (pe_op (r := rAddX K) op_addX (pv 5) (pe_tup (pa_cons (pv 6) pa_nil)))))))))
        (pss_one (ps_set (i := 2) sc_law_every.nd rfl (Or.inl rfl) (pv 4))))))
      (pss_one (ps_ret (pv 2))))), ?_⟩
    try dsimp only [cxOf, Cx.nox, Cx.wish]
    refine rd_start [some (.int (2 : Nat)), some (.int (1 : Nat)), none, none, none, none, none] ?_
    refine q_setN (K := K) (en_lst (ea_cons (ed_tup ea_nil (by simp)) ea_nil) (by simp)) fun F H1 e1 nF hF => ?_
    refine rd_start' [some (.int (2 : Nat)), some (.int (1 : Nat)), some (.ref F), none, none, none, none] ?_
    refine q_seq (st_forR1 (K := K) (n := ((1 : Nat) : Int)) ed_vi (by omega) (by omega) (fun i σ' H' => ∃ (F : Addr) (a b c d : Option V), σ' = [some (.int (2 : Nat)), some (.int (1 : Nat)), some (.ref F), a, b, c, d] ∧ Ext H1 H' ∧ H F = none ∧ LsM K H' F (if i = 0 then [.tup []] else [eL [0], eL [1]])) (fun H2 e2 => ⟨F, none, none, none, none, rfl, e2, nF, hF.to e2⟩) ?_ ?_)
    · rintro i σ' H2 hi ⟨F, a, b, c, d, rfl, e2, nF, hF⟩
      have : i = 0 := by omega
      subst this
      rw [if_pos rfl] at hF
      refine g_nm [some (.int (2 : Nat)), some (.int (1 : Nat)), some (.ref F), some (.int (0 : Nat)), b, c, d] ?_
      refine q_setN (K := K) (en_lst ea_nil (by simp)) fun L H3 e3 nL hL => ?_
      refine rd_start' [some (.int (2 : Nat)), some (.int (1 : Nat)), some (.ref F), some (.int (0 : Nat)), some (.ref L), c, d] ?_
      have hL0 : H L = none := e1.free (e2.free nL)
      refine q_seq (st_forL (K := K) (ds := [.tup []]) (el_v (hF.to e3)) (fun H4 j σ' H' => ∃ (L : Addr) (c d : Option V), σ' = [some (.int (2 : Nat)), some (.int (1 : Nat)), some (.ref F), some (.int (0 : Nat)), some (.ref L), c, d] ∧ Ext H4 H' ∧ Ext H1 H' ∧ H L = none ∧ LsM K H' L (if j = 0 then [] else [eL [0], eL [1]])) (fun H4 e4 => ⟨L, c, d, rfl, Ext.refl _, e2.trans (e3.trans e4), hL0, hL.to e4⟩) ?_ ?_ ?_)
      · rintro H4 j σ' H' ⟨_, _, _, _, z, _⟩
        exact z
      · rintro H4 j v d0 σ' H5 e4 hd ⟨L, c, d, rfl, e5, e15, nL, hL⟩ hv
        cases j with
        | succ j => cases hd
        | zero =>
          cases hd
          rw [if_pos rfl] at hL
          refine g_nm [some (.int (2 : Nat)), some (.int (1 : Nat)), some (.ref F), some (.int (0 : Nat)), some (.ref L), some v, d] ?_
          refine st_setX (r_op1 ev_v fun H6 e6 => ?_)
          refine (en_lcR (K := K) (n := 2) (ed_vi (n := ((2 : Nat) : Int))) (by decide) gm_name (fun j => [eL [0], eL [1]].take j) rfl (fun j _ => by simp; omega) fun j H7 e7 hj => lc_each (e := eL [j]) (by rfl) (by
            match j, hj with
            | 0, _ => rfl
            | 1, _ => rfl) (ed_op (ed_v (hv.to (e6.trans e7).kp)) (ed_tup (ea_cons ed_vi ea_nil) (by simp)) (rd_addT (by simp)))) H6 (Ext.refl _) _ fun L2 H7 e7 n7 hL2 => ?_
          obtain ⟨xs, x1, x2⟩ := hL.to (e6.trans e7)
          obtain ⟨ys, y1, y2⟩ := hL2
          have lx := x2.length
          have ly := y2.length
          refine .inr (.inr ⟨L, L2, xs, ys, rfl, rfl, x1, y1, by rw [lx, ly]; decide, fun p hp => ?_⟩)
          have ep : Ext H7 (upd H7 p (.lst (xs ++ ys))) := Ext.new hp
          have e57 := e6.trans (e7.trans ep)
          exact ⟨p, _, _, rfl, e5.trans e57, e15.trans e57, e1.free (e15.free (e6.free (e7.free hp))), ⟨_, upd_same, (x2.append y2).to ep.kp⟩⟩
      · rintro H4 σ' H5 e4 ⟨L, c, d, rfl, e5, e15, nL, hL⟩
        rw [if_neg (by decide)] at hL
        refine st_setV (v := .ref L) ev_v fun H6 e6 => ?_
        exact ⟨L, _, _, _, _, rfl, e15.trans e6, nL, hL.to e6⟩
    · rintro σ' H2 ⟨F, a, b, c, d, rfl, e2, nF, hF⟩
      rw [if_neg (by decide)] at hF
      exact r_ret ((ev_v (by rfl)) H2 (Ext.refl _) _ fun H3 e3 => hQ F H3 (e1.trans (e2.trans e3)) nF (hF.to e3))
end
end K29
set_option Elab.async false
set_option linter.all false
set_option maxRecDepth 100000
set_option maxHeartbeats 4000000
/-! the law's draws: a table -/
namespace K29
open PySem PySem.Spec PyProof.Rows L2
local macro_rules | `(tactic| walk_at "kp") => `(tactic| first | exact Kp.refl _ | assumption | exact Chg.kp (by assumption) | (refine Kp.trans ?_ (Chg.kp (by assumption)); walk_at "kp"))
local macro_rules | `(tactic| walk_at "ext") => `(tactic| first | exact Ext.refl _ | assumption | (refine Ext.trans ?_ (by assumption); walk_at "ext"))

section
variable {P : Program} {w : World} {K : PySem.W.Frag} {mg : Str → Option Value} {base : Heap}
def RowsOk (m n : Nat) (rs : List (List Nat)) : Prop := rs.length = n ∧ ∀ x ∈ rs, 1 ≤ x.length ∧ x.length ≤ 2 ∧ ∀ y ∈ x, y < m
def SpTable (K : PySem.W.Frag) (TL : List Addr) : Sp := fun vs H Q _ => ∃ (r : Addr) (vM : V) (M : Mach) (m : Nat) (H0 : Hp), vs = [.ref r, vM, .int (m : Nat), .int (1 : Nat)] ∧ Im K H vM (eM M) ∧ MachOk M ∧ 1 ≤ m ∧ m ≤ 2 ∧ Tabs TL H ∧ Kp H0 H ∧ RowAt K H0 H r ∧ ∀ (v : V) (G : Tbl) H', House M G m → Im K H' v (eT G) → Chg [r] H H' → RowAt K H0 H' r → Q v H'
theorem house_of {M : Mach} {G : Tbl} {m : Nat} (hM : MachOk M) (h1 : 1 ≤ m) (h2 : m ≤ 2) (hl : G.length = M.length) (hr : ∀ (i : Nat) st rs, M[i]? = some st → G[i]? = some rs → RowsOk m st.length rs) : House M G m where
  ne := hM.1
  few := hM.2.1
  st := fun st h => (hM.2.2 st h).1
  tgt := fun st h => (hM.2.2 st h).2
  len := hl
  rows := fun s st rs a b => (hr s st rs a b).1
  row := fun rs h => by
    obtain ⟨i, hi⟩ := List.getElem?_of_mem h
    have hlt := (List.getElem?_eq_some_iff.mp hi).1
    exact (hr i _ rs (List.getElem?_eq_getElem (hl ▸ hlt)) hi).2
  mk1 := h1
  mk2 := h2
end
section
variable {K : PySem.W.Frag} {H H' H0 H1 H2 : Hp} {σ : L2.St} {ds es : List Dt} {ta tb tk : TE} {D : Ends} {r : Addr}
theorem ImAll.erase : ∀ {xs : List V} {ds : List Dt} (j : Nat), ImAll K H xs ds → ImAll K H (xs.eraseIdx j) (ds.eraseIdx j)
  | [], [], _, h => h
  | _ :: _, _ :: _, 0, .cons _ h => h
  | _ :: _, _ :: _, j + 1, .cons h1 h => .cons h1 (ImAll.erase j h)
/-- l.append(e.pop(drawn)) -/
theorem st_appPop {l e : Addr} (hl : LsM K H l ds) (he : LsM K H e es) (hlr : l ≠ r) (her : e ≠ r) (hle : l ≠ e) (hl0 : H0 l = none) (he0 : H0 e = none) (ha : EdV ta σ H (.ref l)) (hb : EdV tb σ H (.ref e)) (h : ∀ H1, Ext H H1 → ErI K H0 r tk σ H1 (· < es.length)) (hz : ds.length < 1000000) (hez : es.length < 1000)
    (k : ∀ (j : Nat) (d : Dt) H1, es[j]? = some d → Chg [r, l, e] H H1 → RowAt K H0 H1 r → LsM K H1 l (ds ++ [d]) → LsM K H1 e (es.eraseIdx j) → D.nx σ H1) :
    tDrop (tBM K "list" rAppend ta (tCons (tBM K "list" rPopAt tb (tCons tk tNil)) tNil)) D σ H := ha H (Ext.refl H) _ fun H1 e1 => by
  obtain ⟨xs, a1, a2⟩ := hl.to e1
  refine ⟨Or.inl ⟨rfl, _, Or.inl (Or.inl a1)⟩, ?_⟩
  refine hb H1 e1 _ fun H2 e2 => ?_
  obtain ⟨ys, b1, b2⟩ := he.to (e1.trans e2)
  refine ⟨Or.inl ⟨rfl, _, Or.inl (Or.inl b1)⟩, ?_⟩
  refine h H2 (e1.trans e2) _ fun z H3 hz3 c3 hR3 => ?_
  have b3 := c3.obj e _ (by simp [her]) b1 (by intro ps z; cases z)
  have a3 := c3.obj l _ (by simp [hlr]) (e2.get a1) (by intro ps z; cases z)
  have hlen := b2.length
  have hzy : z < ys.length := by omega
  obtain ⟨d, hd⟩ : ∃ d, es[z]? = some d := ⟨_, List.getElem?_eq_getElem hz3⟩
  have hy : ys[z]? = some ys[z] := List.getElem?_eq_getElem hzy
  obtain ⟨d', hd', hyd⟩ := b2.getv hy
  obtain rfl : d = d' := Option.some.inj (hd.symm.trans hd')
  have c4 : Chg [e] H3 (upd H3 e (.lst (ys.eraseIdx z))) := Chg.put b3
  refine ⟨e, ys, (z : Int), z, ys[z], rfl, rfl, b3, by omega, by omega, (ixN_seq (by unfold ixN; rw [if_pos (by omega), if_pos (by omega)]; congr 1)).1, hy, ?_⟩
  have a4 := c4.obj l _ (by simp [hle]) a3 (by intro ps z; cases z)
  have c5 : Chg [l] (upd H3 e (.lst (ys.eraseIdx z))) (upd (upd H3 e (.lst (ys.eraseIdx z))) l (.lst (xs ++ [ys[z]]))) := Chg.put a4
  refine ⟨l, xs, ys[z], rfl, rfl, a4, Nat.lt_of_lt_of_le (by rw [a2.length]; exact hz) (by decide), ?_⟩
  have kp4 := c3.kp.trans c4.kp
  refine k z d _ hd ((((e1.trans e2).chg.trans (c3.mono (by simp))).trans (c4.mono (by simp))).trans (c5.mono (by simp))) ((hR3.chg c4 (by simp [Ne.symm her]) (fun b hb => by rw [List.mem_singleton.mp hb]; exact he0)).chg c5 (by simp [Ne.symm hlr]) (fun b hb => by rw [List.mem_singleton.mp hb]; exact hl0)) (LsM.app (a2.to (e2.kp.trans kp4)) (hyd.to kp4) a4) ⟨_, c5.obj e _ (by simp [Ne.symm hle]) upd_same (by intro ps z; cases z), (ImAll.erase z b2).to (kp4.trans c5.kp)⟩
end
end K29
set_option Elab.async false
set_option linter.all false
set_option maxRecDepth 100000
set_option maxHeartbeats 4000000
/-! the law's draws: a table, the walk -/
namespace K29
open PySem PySem.Spec PyProof.Rows L2
local macro_rules | `(tactic| walk_at "kp") => `(tactic| first | exact Kp.refl _ | assumption | exact Chg.kp (by assumption) | (refine Kp.trans ?_ (Chg.kp (by assumption)); walk_at "kp"))
local macro_rules | `(tactic| walk_at "ext") => `(tactic| first | exact Ext.refl _ | assumption | (refine Ext.trans ?_ (by assumption); walk_at "ext"))

section
variable {P : Program} {w : World} {K : PySem.W.Frag} {mg : Str → Option Value} {base : Heap}
def One (m : Nat) (d : Dt) : Prop := ∃ x, x < m ∧ d = eL [x]
theorem r_row {H0 H : Hp} {σ : L2.St} {ta tb tc : TE} {r : Addr} {E : XK} {m : Nat} (h1 : EdV ta σ H (.ref r)) (h2 : Ed K tb σ H (.int (m : Nat))) (h3 : Ed K tc σ H (.int (1 : Nat))) (hm1 : 1 ≤ m) (hm2 : m ≤ 2) (hkp : Kp H0 H) (hR : RowAt K H0 H r) : ErD K H0 r (tCall (SpRow K) [] E (tCons ta (tCons tb (tCons tc tNil)))) σ H (One m) := fun Q k =>
  h1 H (Ext.refl H) _ fun H1 e1 => h2 H1 e1 _ fun v H2 e2 hv => h3 H2 (e1.trans e2) _ fun v' H3 e3 hv' => by
    cases hv
    cases hv'
    have e := e1.trans (e2.trans e3)
    exact ⟨r, m, H0, rfl, hm1, hm2, hkp.trans e.kp, hR.to e, fun v x H' hx hi c hR' => k v _ H' ⟨x, hx, rfl⟩ hi (e.chg.trans c) hR'⟩
theorem ones {m : Nat} : ∀ {ds : List Dt}, (∀ d ∈ ds, One m d) → ∃ rs : List (List Nat), ds = rs.map eL ∧ ∀ x ∈ rs, ∃ y, y < m ∧ x = [y]
  | [], _ => ⟨[], rfl, by simp⟩
  | d :: ds, h => by
    obtain ⟨y, hy, rfl⟩ := h d (by simp)
    obtain ⟨rs, rfl, h2⟩ := ones (ds := ds) fun d hd => h d (by simp [hd])
    refine ⟨[y] :: rs, rfl, fun x hx => ?_⟩
    rcases List.mem_cons.mp hx with rfl | hx
    · exact ⟨y, hy, rfl⟩
    · exact h2 x hx
theorem rows_ones {m n : Nat} {rs : List (List Nat)} (hl : rs.length = n) (h : ∀ x ∈ rs, ∃ y, y < m ∧ x = [y]) : RowsOk m n rs := ⟨hl, fun x hx => by
  obtain ⟨y, hy, rfl⟩ := h x hx
  exact ⟨by simp, by simp, fun z hz => by rw [List.mem_singleton.mp hz]; exact hy⟩⟩
theorem st_parDN {H : Hp} {σ : L2.St} {D : Ends} {ta tb : TE} {a : Dt} {ds : List Dt} {i j : Nat} (h1 : Ed K ta σ H a) (h2 : EdN K tb σ H ds) (k : ∀ x l H1, Ext H H1 → Im K H1 x a → H l = none → LsM K H1 l ds → D.nx ((σ.set i (some x)).set j (some (.ref l))) H1) : tPar i j (tCons ta (tCons tb tNil)) D σ H :=
  h1 H (Ext.refl H) _ fun x H1 e1 hx => h2 H1 e1 _ fun l H2 e2 hn hl => ⟨_, _, rfl, k x l H2 (e1.trans e2) (hx.to e2.kp) (e1.free hn) hl⟩
theorem Chg.drop3 {H H1 : Hp} {r l e : Addr} (c : Chg [r, l, e] H H1) (n : H l = none) (n2 : H e = none) : Chg [r] H H1 := ⟨c.kp, fun b o nb hb t => c.obj b o (fun z => by
  rcases List.mem_cons.mp z with z | z
  · exact nb (by simp [z])
  · rcases List.mem_cons.mp z with z | z
    · rw [z, n] at hb
      cases hb
    · rw [List.mem_singleton.mp z, n2] at hb
      cases hb) hb t⟩
theorem sc_law_table : FnScope ["_law_row_here", "_law_machine_here", "_law_marks", "_law_most", "_law_way", "_law_found", "_law_state", "_law_rows", "_law_option", "_law_length", "_law_every_here"] ["_law_row_here", "_law_machine_here", "_law_marks", "_law_most"] (defScope s_law_table) := ⟨rfl, rfl, rfl, by decide +kernel, rfl, by decide +kernel, by decide +kernel⟩
theorem ok_law_table (T : Txt w K mg base) : Ok P w K mg base 4 ("_law_table", none) ["_law_row_here", "_law_machine_here", "_law_marks", "_law_most"] (SpTable K (TL K)) := by
  obtain ⟨⟨fd_law_taken, F_law_taken, b_law_taken⟩, k_law_taken⟩ := ok_law_taken (P := P) T
  obtain ⟨⟨fd_law_row, F_law_row, b_law_row⟩, k_law_row⟩ := ok_law_row (P := P) T
  obtain ⟨⟨fd_law_every, F_law_every, b_law_every⟩, k_law_every⟩ := ok_law_every (P := P) T
  refine ok_of (k := 3) T.f_law_table sc_law_table (fun vs H Q E h => ?_) (fun _ _ _ _ _ _ us hl => match us, hl with | [_, _, _, _], _ => rfl) (fun cdv A outer s H vs Q E hr h => ?_)
  · obtain ⟨r, vM, M, m, H0, rfl, _⟩ := h
    rfl
  · obtain ⟨r, vM, M, m, H0, rfl, hvM, hM, hm1, hm2, hT, hkp, hR, hQ⟩ := h
    refine ⟨_, (pss_cons (ps_par (i := 4) (j := 5) (by rfl) sc_law_table.nd rfl rfl (by decide) rfl rfl (pa_cons (pe_call F_law_taken (hr.mono (by decide)) (by rfl) T.g_law_taken k_law_taken b_law_taken .nil pass0 (pa_cons (pv 0) (pa_cons pe_int pa_nil))) (pa_cons (pe_lst pa_nil) pa_nil)) (by rfl))
      (pss_cons (ps_for PassesOwn.never rfl (pi_tup (pv 1)) (pg_name (i := 6) sc_law_table.nd rfl (Or.inl rfl))
        (pss_cons (ps_setLc (i := 7) (own := [("_law_option", 8)]) rfl sc_law_table.nd rfl rfl (sw_true rfl rfl rfl (by decide +kernel)) (pi_tup (pv 6)) (blkOk_by (N := ["_law_row_here", "_law_machine_here", "_law_marks", "_law_most", "_law_way", "_law_found", "_law_state", "_law_rows", "_law_option", "_law_length", "_law_every_here"]) (sc := defScope s_law_table) (by decide +kernel)) (fun _ _ _ _ _ => (pg_name (i := 8) sc_law_table.nd rfl (Or.inl rfl))) (fun _ _ _ _ _ => pts_nil) (fun _ _ _ _ _ => (pe_call F_law_row (hr.mono (by decide)) (by rfl) T.g_law_row k_law_row b_law_row .nil pass0 (pa_cons (pv 0) (pa_cons (pv 2) (pa_cons (pv 3) pa_nil))))))
        (pss_cons (ps_if (PW.pt (pw_and (pt_cmpR op_gtX (pv 4) pe_int (nomark _)) (pw_and1 (pt_cmpR op_gtX (pv 2) pe_int (nomark _))))) (pss_cons (ps_par (i := 9) (j := 7) (by rfl) sc_law_table.nd rfl rfl (by decide) rfl rfl (pa_cons pe_int (pa_cons (pe_lst pa_nil) pa_nil)) (by rfl))
          (pss_cons (ps_while PassesOwn.never (pt_cmpR op_ltX (pe_callB (id := "len") (r := rLenX K) call_lenX (by rfl) T.g_len (by decide +kernel) (pa_cons (pe_call F_law_every (hr.mono (by decide)) (by rfl) T.g_law_every k_law_every b_law_every .nil pass0 (pa_cons (pv 2) (pa_cons (pv 9) pa_nil))) pa_nil)) (pe_callB (id := "len") (r := rLenX K) call_lenX (by rfl) T.g_len (by decide +kernel) (pa_cons (pv 6) pa_nil)) (nomark _)) (pss_one (ps_set (i := 9) sc_law_table.nd rfl (Or.inl rfl) (pe_op (r := rAddX K) op_addX (pv 9) pe_int))))
          (pss_cons (ps_set (i := 10) sc_law_table.nd rfl (Or.inl rfl) (pe_call F_law_every (hr.mono (by decide)) (by rfl) T.g_law_every k_law_every b_law_every .nil pass0 (pa_cons (pv 2) (pa_cons (pv 9) pa_nil))))
          (pss_cons (ps_for PassesOwn.never rfl (pi_tup (pv 6)) (pg_name (i := 8) sc_law_table.nd rfl (Or.inl rfl))
            (pss_one (ps_expr (pe_bm PySem.F.plainAttrs_list PySem.F.slot_list_append PySem.F.type_list_append mt_append (pv 7) (pa_cons (pe_bm PySem.F.plainAttrs_list PySem.F.slot_list_pop PySem.F.type_list_pop mt_popAt (pv 10) (pa_cons (pe_call F_law_taken (hr.mono (by decide)) (by rfl) T.g_law_taken k_law_taken b_law_taken .nil pass0 (pa_cons (pv 0) (pa_cons (pe_callB (id := "len") (r := rLenX K) call_lenX (by rfl) T.g_len (by decide +kernel) (pa_cons (pv 10) pa_nil)) pa_nil))) pa_nil)) pa_nil)))))
          (pss_one (ps_if (PW.pt (pw_and (pt_cmpR (r := rEqD K) (op_eqD hr.units) (pv 4) pe_int (nomark _)) (pw_and1 (pt_cmpR (r := rNeD K) (op_neD hr.units) (pv 7) (pe_lst pa_nil) (nomark _))))) (pss_one (ps_asg (pe_op (r := rAddX K) op_addX (pe_ix (r := rIx K) ix_seq (pv 7) pe_int (fun _ _ => rfl)) (pe_call F_law_row (hr.mono (by decide)) (by rfl) T.g_law_row k_law_row b_law_row .nil pass0 (pa_cons (pv 0) (pa_cons (pv 2) (pa_cons pe_int pa_nil))))) (pg_sub (pv 7) pe_int set_list))) pss_nil)))))) pss_nil)
        (pss_one (ps_expr (pe_bm PySem.F.plainAttrs_list PySem.F.slot_list_append PySem.F.type_list_append mt_append (pv 5) (pa_cons (pe_callTy (T := "tuple") (r := rTupX K) call_tupX (by rfl) T.g_tuple (by decide +kernel) (pa_cons (pv 7) pa_nil)) pa_nil)))))))
      (pss_one (ps_ret (pe_callTy (T := "tuple") (r := rTupX K) call_tupX (by rfl) T.g_tuple (by decide +kernel) (pa_cons (pv 5) pa_nil)))))), ?_⟩
    try dsimp only [cxOf, Cx.nox, Cx.wish]
    refine rd_start [some (.ref r), some vM, some (.int (m : Nat)), some (.int (1 : Nat)), none, none, none, none, none, none, none] ?_
    refine q_seq (st_parR (er_taken (many := 3) ev_v ed_int hR (by decide) (by decide)) (fun H1 => en_lst ea_nil (by simp)) fun way F H1 _ c1 nF hFr hR1 hF => ?_)
    refine rd_start' [some (.ref r), some vM, some (.int (m : Nat)), some (.int (1 : Nat)), some (.int (way : Nat)), some (.ref F), none, none, none, none, none] ?_
    have nF0 : H0 F = none := hkp.live _ nF
    refine q_seq (st_forT (K := K) (ed_v (hvM.to c1.kp)) (fun H2 j σ' H' => ∃ (a b c d e : Option V) (G : Tbl), σ' = [some (.ref r), some vM, some (.int (m : Nat)), some (.int (1 : Nat)), some (.int (way : Nat)), some (.ref F), a, b, c, d, e] ∧ Kp H2 H' ∧ Chg [r, F] H1 H' ∧ RowAt K H0 H' r ∧ LsM K H' F (G.map eRs) ∧ G.length = j ∧ ∀ (i : Nat) st rs, M[i]? = some st → G[i]? = some rs → RowsOk m st.length rs)
      (fun H2 e2 => ⟨none, none, none, none, none, [], rfl, Kp.refl _, e2.chg, hR1.to e2, hF.to e2, rfl, fun i st rs _ h => by cases h⟩) ?_ ?_ ?_)
    · rintro H2 j σ' H' ⟨_, _, _, _, _, _, _, z, _⟩
      exact z
    · rintro H2 j v d0 σ' H3 e2 hd ⟨a, b, c, d, e, G, rfl, k3, c3, hR3, hF3, hlen, hok⟩ hv
      rw [List.getElem?_map] at hd
      obtain ⟨st, hst, rfl⟩ := Option.map_eq_some_iff.mp hd
      have hst2 := (hM.2.2 st (List.mem_of_getElem? hst)).1
      have hjM := (List.getElem?_eq_some_iff.mp hst).1
      have hM2 := hM.2.1
      refine g_nm [some (.ref r), some vM, some (.int (m : Nat)), some (.int (1 : Nat)), some (.int (way : Nat)), some (.ref F), some v, b, c, d, e] ?_
      have kp3 : Kp H0 H3 := (hkp.trans c1.kp).trans c3.kp
      refine q_setX (r_lcDT (K := K) (Ψ := One m) (ed_v hv) (by rw [List.length_map]; omega) hR3 kp3 (fun v => rfl) (fun v H4 c4 hR4 => r_row ev_v (ed_vi (n := (m : Nat))) (ed_vi (n := (1 : Nat))) hm1 hm2 (kp3.trans c4.kp) hR4) fun R ds H4 hds hdsok nR c4 hR4 hRl => ?_)
      refine rd_start' [some (.ref r), some vM, some (.int (m : Nat)), some (.int (1 : Nat)), some (.int (way : Nat)), some (.ref F), some v, some (.ref R), c, d, e] ?_
      rw [List.length_map] at hds
      obtain ⟨rs0, rfl, hrs0⟩ := ones hdsok
      rw [List.length_map] at hds
      have hT4 : Kp H H4 := (c1.kp.trans c3.kp).trans c4.kp
      refine q_ifJ (fun σ' H' => ∃ (R : Addr) (c d e : Option V) (rs : List (List Nat)), σ' = [some (.ref r), some vM, some (.int (m : Nat)), some (.int (1 : Nat)), some (.int (way : Nat)), some (.ref F), some v, some (.ref R), c, d, e] ∧ Chg [r] H3 H' ∧ RowAt K H0 H' r ∧ LsM K H' R (rs.map eL) ∧ RowsOk m st.length rs) (et_and (et_test (K := K) (ed_op ed_vi ed_int rd_gt)) fun _ => et_test (K := K) (ed_op ed_vi ed_int rd_gt)) ?_ ?_ ?_
      · rintro σ' H5 ⟨R, c, d, e, rs, rfl, c5, hR5, hRl, hrs⟩
        have hF5 := hF3.chg c5 (by simp [hFr])
        refine st_app (K := K) (d := eRs rs) hF5 ev_v (ed_tupL (el_v hRl)) (by rw [List.length_map]; omega) fun H6 c6 hF6 => ?_
        refine ⟨_, _, _, _, _, G ++ [rs], rfl, (k3.trans c5.kp).trans c6.kp, (c3.trans (c5.mono (by simp))).trans (c6.mono (by simp)), hR5.chg c6 (by simp [Ne.symm hFr]) (fun b hb => by rw [List.mem_singleton.mp hb]; exact nF0), by rw [List.map_append]; exact hF6, by simp [hlen], fun i st' rs' h1 h2 => ?_⟩
        rcases Nat.lt_or_ge i G.length with q | q
        · rw [List.getElem?_append_left q] at h2
          exact hok i st' rs' h1 h2
        · have hi := (List.getElem?_eq_some_iff.mp h2).1
          rw [List.length_append, List.length_singleton] at hi
          have : i = G.length := by omega
          subst this
          rw [List.getElem?_append_right (Nat.le_refl _), Nat.sub_self] at h2
          cases h2
          rw [hlen, hst] at h1
          cases h1
          exact hrs
      · rintro z Z hZ H5 e5
        have hm : m = 2 := by
          have z2 := (Bool.and_eq_true _ _ ▸ z).2
          have := of_decide_eq_true z2
          omega
        subst hm
        have hR5 := hR4.to e5
        refine q_seq (st_parDN (K := K) (ed_int (i := 1)) (en_lst ea_nil (by simp)) fun xv L H6 e6 hx nL hL => ?_)
        cases hx
        refine rd_start' [some (.ref r), some vM, some (.int (2 : Nat)), some (.int (1 : Nat)), some (.int (way : Nat)), some (.ref F), some v, some (.ref L), c, some (.int (1 : Nat)), e] ?_
        refine q_seq (st_while (fun j σ' H' => j = 0 ∧ σ' = [some (.ref r), some vM, some (.int (2 : Nat)), some (.int (1 : Nat)), some (.int (way : Nat)), some (.ref F), some v, some (.ref L), c, some (.int (1 : Nat)), e] ∧ Ext H6 H') 0 ⟨rfl, rfl, Ext.refl _⟩ ?_)
        rintro j' σ' H' ⟨rfl, rfl, e7⟩
        have k56 : Kp H H6 := hT4.trans (e5.trans e6).kp
        have k36 : Kp H3 H6 := c4.kp.trans (e5.trans e6).kp
        refine ⟨false, et_test (K := K) (Ed.is (ed_op (ed_lenL (en_call (R := R_law_every) (es := [eL [0], eL [1]]) (ea_cons (ed_vi (n := ((2 : Nat) : Int))) (ea_cons (ed_vi (n := ((1 : Nat) : Int))) ea_nil)) hT (k56.trans e7.kp) ⟨rfl, rfl⟩).l) (ed_lenT (ed_v (hv.to (k36.trans e7.kp)))) rd_lt) (congrArg Dt.bl (decide_eq_false (by rw [List.length_map]; simp; omega)))), (fun z => by cases z), fun _ H7 e8 => ?_⟩
        have e67 : Ext H6 H7 := e7.trans e8
        refine q_setN (K := K) (en_call (R := R_law_every) (es := [eL [0], eL [1]]) (ea_cons (ed_vi (n := ((2 : Nat) : Int))) (ea_cons (ed_vi (n := ((1 : Nat) : Int))) ea_nil)) hT (k56.trans e67.kp) ⟨rfl, rfl⟩) fun E H8 e8 nE hE => ?_
        refine rd_start' [some (.ref r), some vM, some (.int (2 : Nat)), some (.int (1 : Nat)), some (.int (way : Nat)), some (.ref F), some v, some (.ref L), c, some (.int (1 : Nat)), some (.ref E)] ?_
        have nL0 : H0 L = none := ((kp3.trans c4.kp).trans e5.kp).live _ nL
        have nE5 : H5 E = none := (e6.trans e67).free nE
        have nE0 : H0 E = none := ((kp3.trans c4.kp).trans e5.kp).live _ nE5
        have hLr : L ≠ r := fun q => hR5.live (q ▸ nL)
        have hEr : E ≠ r := fun q => hR5.live (q ▸ nE5)
        have hLE : L ≠ E := fun q => by
          obtain ⟨xs, x1, _⟩ := hL.to e67
          rw [q, nE] at x1
          cases x1
        have e58 : Ext H5 H8 := e6.trans (e67.trans e8)
        refine q_seq (st_forT (K := K) (ed_v (hv.to (k36.trans (e67.trans e8).kp))) (fun H9 j σ' H' => ∃ (c : Option V) (rs : List (List Nat)) (es : List Dt), σ' = [some (.ref r), some vM, some (.int (2 : Nat)), some (.int (1 : Nat)), some (.int (way : Nat)), some (.ref F), some v, some (.ref L), c, some (.int (1 : Nat)), some (.ref E)] ∧ Kp H9 H' ∧ Chg [r, L, E] H8 H' ∧ RowAt K H0 H' r ∧ LsM K H' L (rs.map eL) ∧ LsM K H' E es ∧ rs.length = j ∧ es.length = 2 - j ∧ (∀ x ∈ es, One 2 x) ∧ ∀ x ∈ rs, ∃ y, y < 2 ∧ x = [y])
          (fun H9 e9 => ⟨c, [], _, rfl, Kp.refl _, e9.chg, hR5.to (e58.trans e9), hL.to (e67.trans (e8.trans e9)), hE.to e9, rfl, rfl, fun x hx => by
            simp only [List.mem_cons, List.not_mem_nil, or_false] at hx
            rcases hx with rfl | rfl
            · exact ⟨0, by omega, rfl⟩
            · exact ⟨1, by omega, rfl⟩, by simp⟩) ?_ ?_ ?_)
        · rintro H9 j σ' H' ⟨_, _, _, _, z, _⟩
          exact z
        · rintro H9 j x d0 σ' H10 e9 hd ⟨c, rs, es, rfl, k10, c10, hR10, hL10, hE10, l1, l2, o1, o2⟩ hx
          have hj := (List.getElem?_eq_some_iff.mp hd).1
          rw [List.length_map] at hj
          refine g_nm [some (.ref r), some vM, some (.int (2 : Nat)), some (.int (1 : Nat)), some (.int (way : Nat)), some (.ref F), some v, some (.ref L), some x, some (.int (1 : Nat)), some (.ref E)] ?_
          refine st_appPop (K := K) (H0 := H0) hL10 hE10 hLr hEr hLE nL0 nE0 ev_v ev_v (fun H11 e11 => er_taken ev_v (ed_lenL (el_v (hE10.to e11))) (hR10.to e11) (by omega) (by omega)) (by rw [List.length_map]; omega) (by omega) fun p d1 H11 hd1 c11 hR11 hL11 hE11 => ?_
          obtain ⟨y, hy, rfl⟩ := o1 d1 (List.mem_of_getElem? hd1)
          have hp := (List.getElem?_eq_some_iff.mp hd1).1
          refine ⟨_, rs ++ [[y]], _, rfl, k10.trans c11.kp, c10.trans c11, hR11, by rw [List.map_append]; exact hL11, hE11, by simp [l1], by rw [List.length_eraseIdx_of_lt hp]; omega, fun x hx => o1 x (List.mem_of_mem_eraseIdx hx), fun x hx => ?_⟩
          rcases List.mem_append.mp hx with hx | hx
          · exact o2 x hx
          · exact ⟨y, hy, List.mem_singleton.mp hx⟩
        · rintro H9 σ' H10 e9 ⟨c, rs, es, rfl, k10, c10, hR10, hL10, hE10, l1, l2, o1, o2⟩
          rw [List.length_map] at l1
          have cA : Chg [r] H5 H10 := Chg.drop3 (e58.chg.trans c10) nL nE5
          have cB : Chg [r] H3 H10 := c4.trans (e5.chg.trans cA)
          have ro := rows_ones l1 o2
          refine st_if (et_and (et_test (K := K) (ed_op ed_vi ed_int (rd_eq (n := 0) (m := 0) (k := decide (way = 2)) rfl rfl (by simp; omega)))) fun _ => et_test (K := K) (ed_neLL (n := 2) (m := 0) (k := decide (rs ≠ [])) (el_v hL10) (en_lst ea_nil (by simp)).l (fun x hx => ?_) (by simp) (by simp))) (fun z H11 e11 => ?_) fun z H11 e11 => ?_
          · obtain ⟨x, _, rfl⟩ := List.mem_map.mp hx
            exact ok_eL
          · have z2 := of_decide_eq_true (Bool.and_eq_true _ _ ▸ z).2
            match rs, z2, l1, o2, hL10, ro with
            | x0 :: rs, _, l1, o2, hL10, ro =>
              obtain ⟨y0, hy0, rfl⟩ := o2 x0 (by simp)
              have hL11 := hL10.to e11
              refine ed_ixL (K := K) (d := eL [y0]) (el_v hL11) ed_int (show atI _ ((0 : Nat) : Int) = _ from atI_nat rfl) H11 (Ext.refl _) _ fun v1 H12 e12 hv1 => ?_
              refine r_row (m := 2) ev_v ed_vi ed_int (by decide) (by decide) ((kp3.trans cB.kp).trans (e11.trans e12).kp) (hR10.to (e11.trans e12)) _ fun v2 d2 H13 hd2 hv2 c13 hR13 => ?_
              obtain ⟨y, hy, rfl⟩ := hd2
              refine rd_addT (K := K) (ds := [eN y0]) (es := [eN y]) (by simp) v1 v2 H13 (hv1.to c13.kp) hv2 _ fun v3 H14 e14 hv3 => ?_
              obtain ⟨xs, s1, s2⟩ := ((hL11.to e12).chg c13 (by simp [hLr])).to e14
              have c15 : Chg [L] H14 (upd H14 L (.lst (xs.set 0 v3))) := Chg.put s1
              refine ⟨.ref L, rfl, L, xs, 0, 0, rfl, rfl, s1, by rw [s2.length, List.length_map, List.length_cons]; unfold ixN; rw [if_pos (by omega), if_pos (by omega)]; rfl, ?_⟩
              have cC : Chg [r, L] H5 (upd H14 L (.lst (xs.set 0 v3))) := (cA.mono (by simp)).trans ((e11.trans e12).chg.trans ((c13.mono (by simp)).trans (e14.chg.trans (c15.mono (by simp)))))
              refine hZ _ _ ⟨L, _, _, _, [y0, y] :: rs, rfl, c4.trans (e5.chg.trans (Chg.drop2 cC nL)), (hR13.to e14).chg c15 (by simp [Ne.symm hLr]) (fun b hb => by rw [List.mem_singleton.mp hb]; exact nL0), ⟨_, upd_same, (s2.set 0 hv3).to c15.kp⟩, l1, fun x hx => ?_⟩
              rcases List.mem_cons.mp hx with rfl | hx
              · exact ⟨by simp, by simp, fun q hq => by
                  simp only [List.mem_cons, List.not_mem_nil, or_false] at hq
                  rcases hq with rfl | rfl
                  · exact hy0
                  · exact hy⟩
              · exact ro.2 x (List.mem_cons_of_mem _ hx)
          · exact hZ _ _ ⟨L, c, _, _, rs, rfl, cB.trans e11.chg, hR10.to e11, hL10.to e11, ro⟩
      · rintro _ Z hZ H5 e5
        exact hZ _ _ ⟨R, c, d, e, rs0, rfl, c4.trans e5.chg, hR4.to e5, hRl.to e5, rows_ones hds hrs0⟩
    · rintro H2 σ' H3 e2 ⟨a, b, c, d, e, G, rfl, k3, c3, hR3, hF3, hlen, hok⟩
      rw [List.length_map] at hlen
      refine st_ret (K := K) (ed_tupL (el_v hF3)) fun v H4 e4 hv => ?_
      exact hQ v G H4 (house_of hM hm1 hm2 hlen hok) hv (((c1.mono (by simp)).trans (c3.trans e4.chg)).drop2 nF) (hR3.to e4)
end
end K29
set_option Elab.async false
set_option linter.all false
set_option maxRecDepth 100000
set_option maxHeartbeats 4000000
/-! is True, is False; the law's own rules -/
namespace K29
open PySem PySem.Spec PyProof.Rows L2
section
variable {X : Cx}
def rIsB (neg : Bool) : R2 := fun x y H Q => ∃ k b : Bool, x = .bl k ∧ y = .bl b ∧ Q (.bl (if neg then !(k == b) else k == b)) H
theorem op_isB : OpR X (compareOp .Is) (rIsB false) := by
  intro pins s σ H x y v u Q I rx ry h
  obtain ⟨k, b, rfl, rfl, q⟩ := h
  cases rx
  cases ry
  exact wpAny_is_plain rfl (fin_bl I q (by cases k <;> cases b <;> rfl))
theorem op_isnotB : OpR X (compareOp .IsNot) (rIsB true) := by
  intro pins s σ H x y v u Q I rx ry h
  obtain ⟨k, b, rfl, rfl, q⟩ := h
  cases rx
  cases ry
  exact wpAny_isNot_plain rfl (fin_bl I q (by cases k <;> cases b <;> rfl))
end
section
variable {K : PySem.W.Frag} {H H0 : Hp} {σ : L2.St} {ta tb tc td : TE} {r : Addr} {E : XK} {Q : VK} {M : Mach} {G : Tbl} {m : Nat} {TL : List Addr} {tr : TA}
theorem rd_isB {k b : Bool} : RD K (rIsB false) (.bl k) (.bl b) (.bl (k == b)) := rd_now fun x y H1 hx hy Q q => by
  cases hx
  cases hy
  exact ⟨k, b, rfl, rfl, q _ (.bl _)⟩
theorem rd_isnotB {k b : Bool} : RD K (rIsB true) (.bl k) (.bl b) (.bl (!(k == b))) := rd_now fun x y H1 hx hy Q q => by
  cases hx
  cases hy
  exact ⟨k, b, rfl, rfl, q _ (.bl _)⟩
theorem r_machine (h1 : EdV ta σ H (.ref r)) (h2 : Ed K tb σ H (.int (2 : Nat))) (h3 : Ed K tc σ H (.int (2 : Nat))) (hkp : Kp H0 H) (hR : RowAt K H0 H r) (k : ∀ (v : V) (M : Mach) H', MachOk M → Im K H' v (eM M) → Chg [r] H H' → RowAt K H0 H' r → Q v H') : tCall (SpMachine K) [] E (tCons ta (tCons tb (tCons tc tNil))) σ H Q :=
  h1 H (Ext.refl H) _ fun H1 e1 => h2 H1 e1 _ fun v H2 e2 hv => h3 H2 (e1.trans e2) _ fun v' H3 e3 hv' => by
    cases hv
    cases hv'
    have e := e1.trans (e2.trans e3)
    exact ⟨r, H0, rfl, hkp.trans e.kp, hR.to e, fun v M H' hM hv c hR' => k v M H' hM hv (e.chg.trans c) hR'⟩
theorem r_table (h1 : EdV ta σ H (.ref r)) (h2 : Ed K tb σ H (eM M)) (h3 : Ed K tc σ H (.int (m : Nat))) (h4 : Ed K td σ H (.int (1 : Nat))) (hM : MachOk M) (hm1 : 1 ≤ m) (hm2 : m ≤ 2) (hT : Tabs TL H0) (hkp : Kp H0 H) (hR : RowAt K H0 H r) (k : ∀ (v : V) (G : Tbl) H', House M G m → Im K H' v (eT G) → Chg [r] H H' → RowAt K H0 H' r → Q v H') : tCall (SpTable K TL) [] E (tCons ta (tCons tb (tCons tc (tCons td tNil)))) σ H Q :=
  h1 H (Ext.refl H) _ fun H1 e1 => h2 H1 e1 _ fun vM H2 e2 hvM => h3 H2 (e1.trans e2) _ fun v H3 e3 hv => h4 H3 (e1.trans (e2.trans e3)) _ fun v' H4 e4 hv' => by
    cases hv
    cases hv'
    have e := e1.trans (e2.trans (e3.trans e4))
    exact ⟨r, vM, M, m, H0, rfl, hvM.to (e3.trans e4).kp, hM, hm1, hm2, hT.to (hkp.trans e.kp), hkp.trans e.kp, hR.to e, fun v G H' hH hv c hR' => k v G H' hH hv (e.chg.trans c) hR'⟩
theorem ed_safeF {k0 : Hp} (h : EdA K tr σ H [eM M, eN m, eT G]) (ht : Tabs TL H0) (hk : Kp H0 H) (hH : House M G m) (hn : ∀ F, ¬ Holds M G (Say M) F) : Ed K (tCall (SpSafe K TL) [] E tr) σ H (.bl false) := fun H1 e Q q =>
  h H1 e _ fun vs H2 e2 hs => ⟨M, G, m, by rw [List.append_nil]; exact hs, ht.to (hk.trans (e.trans e2).kp), hH, fun b H3 e3 z => by
    cases b with
    | true =>
      obtain ⟨F, hF⟩ := z rfl
      exact absurd hF (hn F)
    | false => exact q _ H3 (e2.trans e3) (.bl false)⟩
end
/-- by its body, the function object named -/
theorem ok_ofF {P : Program} {w : World} {K : PySem.W.Frag} {mg : Str → Option Value} {base : Heap} {x qual : Str} {params : Arguments} {body : List Stmt} {scope : Scope} {N ps : List Str} {k : Nat} {sp : Sp} {f : Addr} {fd : FuncData}
    (F : FunD K x qual params body scope [] [] f fd) (S : FnScope N ps scope) (len : ∀ vs H Q E, sp vs H Q E → vs.length = ps.length)
    (hbody : ∀ (cdv : Value) (A : Around) (outer : List Env) (s : Shared) (H : Hp) (vs : List V) (Q : VK) (E : XK), Room k (A.deeper (envOfC qual scope s.heap.objs.size f cdv)) → sp vs H Q E →
      ∃ t, PSs (cxOf CX0 P w K mg base N qual scope f cdv A outer s H E).nox body t ∧ t { nx := fun _ H' => Q .non H', rt := Q } (start N vs) H) : FnOk P w K mg base CX0 (k + 1) f fd ps sp :=
  F.ok S len fun cdv A outer s H vs Q E hr h => by
    obtain ⟨t, h1, h2⟩ := hbody cdv A outer s H vs Q E hr h
    exact ⟨t, h1.nox, h2⟩
theorem least_nat {P : Nat → Prop} (n : Nat) (h : P n) : ∃ k, k ≤ n ∧ P k ∧ ∀ j < k, ¬ P j := by
  induction n using Nat.strongRecOn with
  | ind n ih =>
    by_cases z : ∃ j, j < n ∧ P j
    · obtain ⟨j, hj, hp⟩ := z
      obtain ⟨k, h1, h2, h3⟩ := ih j hj hp
      exact ⟨k, by omega, h2, h3⟩
    · exact ⟨n, Nat.le_refl _, h, fun j hj hp => z ⟨j, hj, hp⟩⟩
section
variable {mn : Mn} {M : Mach} {G : Tbl} {most : Nat}
theorem leastH_ex : ∃ o, LeastH mn M G most o := by
  by_cases h : ∃ j, j ≤ most ∧ ∃ S, Rch mn M G j S ∧ harmW mn M G S ≠ none
  · obtain ⟨j, hj, hS⟩ := h
    obtain ⟨k, h1, h2, h3⟩ := least_nat (P := fun j => ∃ S, Rch mn M G j S ∧ harmW mn M G S ≠ none) j hS
    exact ⟨some k, by omega, h2, fun i hi S r => Classical.byContradiction fun z => h3 i hi ⟨S, r, z⟩⟩
  · exact ⟨none, fun j hj S r => Classical.byContradiction fun z => h ⟨j, hj, S, r, z⟩⟩
theorem path_at : ∀ {sts : List Stp} {S : WS} {j : Nat} {st : Stp}, PathP mn M G S sts → sts[j]? = some st → PathP mn M G S (sts.take j) ∧ st ∈ canP mn M (runW mn M G S (sts.take j))
  | [], _, _, _, _, e => by cases e
  | a :: r, S, 0, st, ⟨h1, h2⟩, e => by
    cases e
    exact ⟨trivial, h1⟩
  | a :: r, S, j + 1, st, ⟨h1, h2⟩, e => by
    obtain ⟨p, q⟩ := path_at h2 e
    exact ⟨⟨h1, p⟩, q⟩
end
end K29
set_option Elab.async false
set_option linter.all false
set_option maxRecDepth 100000
set_option maxHeartbeats 4000000
/-! the law -/
namespace K29
open PySem PySem.Spec PyProof.Rows L2
local macro_rules | `(tactic| walk_at "kp") => `(tactic| first | exact Kp.refl _ | assumption | exact Chg.kp (by assumption) | (refine Kp.trans ?_ (Chg.kp (by assumption)); walk_at "kp"))
local macro_rules | `(tactic| walk_at "ext") => `(tactic| first | exact Ext.refl _ | assumption | (refine Ext.trans ?_ (by assumption); walk_at "ext"))

section
variable {P : Program} {w : World} {K : PySem.W.Frag} {mg : Str → Option Value} {base : Heap}
def SpLaw (K : PySem.W.Frag) (TL : List Addr) : Sp := fun vs H Q _ => ∃ (a : Addr) (ns : List Int), vs = [.ref a] ∧ Tabs TL H ∧ SqL K H a (ns.map V.int) ∧ ∀ H', Q (.bl true) H'
theorem manner_of {d : Dt} (h : d ∈ [Dt.str "sealed", .str "late", .str "early", .str "counted", .str "open"]) : ∃ mn : Mn, d = .str mn.s := by
  simp only [List.mem_cons, List.not_mem_nil, or_false] at h
  rcases h with rfl | rfl | rfl | rfl | rfl
  · exact ⟨.sealed, rfl⟩
  · exact ⟨.late, rfl⟩
  · exact ⟨.early, rfl⟩
  · exact ⟨.counted, rfl⟩
  · exact ⟨.opened, rfl⟩
theorem sc_law : FnScope ["_law_script", "_law_row_here", "_law_machine_here", "_law_marks", "_law_table_here", "_law_manner", "_law_most", "_law_least_here", "_law_found", "_law_world_here", "_law_word", "_law_step"] ["_law_script"] (defScope s_law) := ⟨rfl, rfl, rfl, by decide +kernel, rfl, by decide +kernel, by decide +kernel⟩
theorem ok_law (T : Txt w K mg base) {fd : FuncData} (F : FunD K d_law.name d_law.qual d_law.params d_law.body d_law.scope (d_law.dvs K) (d_law.kws K) (He.fAd K d_law.at_) fd) : FnOk P w K mg base CX0 16 (He.fAd K d_law.at_) fd ["_law_script"] (SpLaw K (TL K)) := by
  obtain ⟨⟨fd_law_taken, F_law_taken, b_law_taken⟩, k_law_taken⟩ := ok_law_taken (P := P) T
  obtain ⟨⟨fd_law_machine, F_law_machine, b_law_machine⟩, k_law_machine⟩ := ok_law_machine (P := P) T
  obtain ⟨⟨fd_law_table, F_law_table, b_law_table⟩, k_law_table⟩ := ok_law_table (P := P) T
  obtain ⟨⟨fd_law_pick, F_law_pick, b_law_pick⟩, k_law_pick⟩ := ok_law_pick (P := P) T
  obtain ⟨⟨fd_harm_of, F_harm_of, b_harm_of⟩, k_harm_of⟩ := ok_harm_of (P := P) T
  obtain ⟨⟨fd_law_least, F_law_least, b_law_least⟩, k_law_least⟩ := ok_law_least (P := P) T
  obtain ⟨⟨fd_shows_harm, F_shows_harm, b_shows_harm⟩, k_shows_harm⟩ := ok_shows_harm (P := P) T
  obtain ⟨⟨fd_law_bad_world, F_law_bad_world, b_law_bad_world⟩, k_law_bad_world⟩ := ok_law_bad_world (P := P) T
  obtain ⟨⟨fd_law_bad_can, F_law_bad_can, b_law_bad_can⟩, k_law_bad_can⟩ := ok_law_bad_can (P := P) T
  obtain ⟨⟨fd_law_bad_step, F_law_bad_step, b_law_bad_step⟩, k_law_bad_step⟩ := ok_law_bad_step (P := P) T
  obtain ⟨⟨fd_law_bad_harm, F_law_bad_harm, b_law_bad_harm⟩, k_law_bad_harm⟩ := ok_law_bad_harm (P := P) T
  obtain ⟨⟨fd_is_safe, F_is_safe, b_is_safe⟩, k_is_safe⟩ := ok_is_safe (P := P) T
  refine ok_ofF (k := 15) F sc_law (fun vs H Q E h => ?_) (fun cdv A outer s H vs Q E hr h => ?_)
  · obtain ⟨a, ns, rfl, _⟩ := h
    rfl
  · obtain ⟨a, ns, rfl, hT, hS, hQ⟩ := h
    refine ⟨_, (pss_cons (ps_set (i := 1) sc_law.nd rfl (Or.inl rfl) (pe_lst (pa_cons (pv 0) (pa_cons pe_int (pa_cons pe_int (pa_cons pe_int pa_nil))))))
      (pss_cons (ps_par (i := 2) (j := 3) (by rfl) sc_law.nd rfl rfl (by decide) rfl rfl (pa_cons (pe_call F_law_machine (hr.mono (by decide)) (by rfl) T.g_law_machine k_law_machine b_law_machine .nil pass0 (pa_cons (pv 1) (pa_cons pe_int (pa_cons pe_int pa_nil)))) (pa_cons (pe_op (r := rAddX K) op_addX pe_int (pe_call F_law_taken (hr.mono (by decide)) (by rfl) T.g_law_taken k_law_taken b_law_taken .nil pass0 (pa_cons (pv 1) (pa_cons pe_int pa_nil)))) pa_nil)) (by rfl))
      (pss_cons (ps_set (i := 4) sc_law.nd rfl (Or.inl rfl) (pe_call F_law_table (hr.mono (by decide)) (by rfl) T.g_law_table k_law_table b_law_table .nil pass0 (pa_cons (pv 1) (pa_cons (pv 2) (pa_cons (pv 3) (pa_cons pe_int pa_nil))))))
      (pss_cons (ps_set (i := 5) sc_law.nd rfl (Or.inl rfl) (pe_call F_law_pick (hr.mono (by decide)) (by rfl) T.g_law_pick k_law_pick b_law_pick .nil pass0 (pa_cons (pv 1) (pa_cons (pe_lst (pa_cons pe_str (pa_cons pe_str (pa_cons pe_str (pa_cons pe_str (pa_cons pe_str pa_nil)))))) pa_nil))))
      (pss_cons (ps_set (i := 6) sc_law.nd rfl (Or.inl rfl) (pe_call F_law_taken (hr.mono (by decide)) (by rfl) T.g_law_taken k_law_taken b_law_taken .nil pass0 (pa_cons (pv 1) (pa_cons pe_int pa_nil))))
      (pss_cons (ps_par (i := 7) (j := 8) (by rfl) sc_law.nd rfl rfl (by decide) rfl rfl (pa_cons (pe_call F_law_least (hr.mono (by decide)) (by rfl) T.g_law_least k_law_least b_law_least .nil pass0 (pa_cons (pv 2) (pa_cons (pv 4) (pa_cons (pv 5) (pa_cons (pv 6) pa_nil))))) (pa_cons (pe_call F_harm_of (hr.mono (by decide)) (by rfl) T.g_harm_of k_harm_of b_harm_of .nil pass0 (pa_cons (pv 2) (pa_cons (pv 3) (pa_cons (pv 4) (pa_cons (pv 5) (pa_cons (pv 6) pa_nil)))))) pa_nil)) (by rfl))
      (pss_cons (ps_if (pt_cmpR (r := rIsB true) op_isnotB (pe_call F_shows_harm (hr.mono (by decide)) (by rfl) T.g_shows_harm k_shows_harm b_shows_harm .nil pass0 (pa_cons (pv 2) (pa_cons (pv 3) (pa_cons (pv 4) (pa_cons (pv 5) (pa_cons (pv 6) (pa_cons (pv 8) pa_nil))))))) pe_bl (nomark _)) (pss_one (ps_ret pe_bl)) pss_nil)
      (pss_cons (ps_if (PW.pt (pw_or (pt_cmp (pc_isN (pv 8))) (pw_or1 (pt_cmp (pc_isN (pv 7)))))) (pss_one (ps_ret (pe_and (pe_cmp (pc_isN (pv 8)) rfl) (pe_one (pe_cmp (pc_isN (pv 7)) rfl))))) pss_nil)
      (pss_cons (ps_par (i := 9) (j := 10) (by rfl) sc_law.nd rfl rfl (by decide) rfl rfl (pa_cons (pe_call F_law_bad_world (hr.mono (by decide)) (by rfl) T.g_law_bad_world k_law_bad_world b_law_bad_world .nil pass0 (pa_cons (pv 5) pa_nil)) (pa_cons (pe_ix (r := rIx K) ix_seq (pv 8) pe_int (fun _ _ => rfl)) pa_nil)) (by rfl))
      (pss_cons (ps_for PassesOwn.never rfl (pi_tup (pe_ix (r := rIx K) ix_seq (pv 8) pe_int (fun _ _ => rfl))) (pg_name (i := 11) sc_law.nd rfl (Or.inl rfl))
        (pss_cons (ps_if (pt_cmpR (r := rInX K true) (op_ninX (u65 hr)) (pv 11) (pe_call F_law_bad_can (hr.mono (by decide)) (by rfl) T.g_law_bad_can k_law_bad_can b_law_bad_can .nil pass0 (pa_cons (pv 9) (pa_cons (pv 2) pa_nil))) (by with_unfolding_all rfl)) (pss_one (ps_ret pe_bl)) pss_nil)
        (pss_one (ps_expr (pe_call F_law_bad_step (hr.mono (by decide)) (by rfl) T.g_law_bad_step k_law_bad_step b_law_bad_step .nil pass0 (pa_cons (pv 9) (pa_cons (pv 2) (pa_cons (pv 4) (pa_cons (pv 11) pa_nil)))))))))
      (pss_cons (ps_if (PW.pt (pw_or (pt_cmpR (r := rNeD K) (op_neD hr.units) (pe_callB (id := "len") (r := rLenX K) call_lenX (by rfl) T.g_len (by decide +kernel) (pa_cons (pe_ix (r := rIx K) ix_seq (pv 8) pe_int (fun _ _ => rfl)) pa_nil)) (pv 7) (nomark _)) (pw_or1 (pt_cmpR (r := rNeD K) (op_neD hr.units) (pe_call F_law_bad_harm (hr.mono (by decide)) (by rfl) T.g_law_bad_harm k_law_bad_harm b_law_bad_harm .nil pass0 (pa_cons (pv 9) (pa_cons (pv 2) (pa_cons (pv 4) pa_nil)))) (pv 10) (nomark _))))) (pss_one (ps_ret pe_bl)) pss_nil)
      (pss_one (ps_ret (pe_or (pe_cmpR (r := rNeD K) (op_neD hr.units) (pv 5) pe_str (nomark _)) (pe_one (pe_and (pe_cmpR (r := rIsB false) op_isB (pe_call F_is_safe (hr.mono (by decide)) (by rfl) T.g_is_safe k_is_safe b_is_safe .nil pass0 (pa_cons (pv 2) (pa_cons (pv 3) (pa_cons (pv 4) pa_nil)))) pe_bl (nomark _)) (pe_one (pe_cmpR (r := rEqD K) (op_eqD hr.units) (pv 10) pe_str (nomark _))))))))))))))))))), ?_⟩
    try dsimp only [cxOf, Cx.nox, Cx.wish]
    refine rd_start [some (.ref a), none, none, none, none, none, none, none, none, none, none, none] ?_
    refine q_setX (r_lst ⟨.ref a, rfl, ⟨by show 4 ≤ sizeLine; decide, fun r nr => ?_⟩⟩)
    obtain ⟨H1, hH1⟩ : ∃ H1, H1 = upd H r (.lst [.ref a, .int 0, .int 7029, .int 0]) := ⟨_, rfl⟩
    refine rd_start' [some (.ref a), some (.ref r), none, none, none, none, none, none, none, none, none, none] ?_
    rw [← hH1]
    have e1 : Ext H H1 := hH1 ▸ Ext.new nr
    have hR1 : RowAt K H H1 r := by
      refine ⟨nr, a, ns, 0, 7029, 0, by rw [hH1]; exact upd_same, e1.seqL hS, ?_⟩
      rcases hS with (h | ⟨o, h⟩) | h
      · exact .inl (by rw [h]; simp)
      · exact .inl (by rw [h]; simp)
      · exact .inr fun H => .inr h
    refine r_par (r_cons (r_machine ev_v ed_int ed_int e1.kp hR1 fun vM M H2 hM hvM c2 hR2 => r_cons (er_add (n := 1) (ed_int (K := K)) (fun H3 e3 => er_taken (many := 2) ev_v ed_int (hR2.to e3) (by decide) (by decide)) _ fun m H3 hm c3 hR3 => r_nil ⟨_, _, rfl, ?_⟩)))
    have hm12 : 1 ≤ m ∧ m ≤ 2 := by
      obtain ⟨y, hy, rfl⟩ := hm
      omega
    refine rd_start' [some (.ref a), some (.ref r), some vM, some (.int (m : Nat)), none, none, none, none, none, none, none, none] ?_
    have k3 : Kp H H3 := e1.kp.trans (c2.kp.trans c3.kp)
    refine q_setX (r_table ev_v (ed_v (hvM.to c3.kp)) ed_vi ed_int hM hm12.1 hm12.2 hT k3 hR3 fun vG G H4 hH hvG c4 hR4 => ?_)
    refine rd_start' [some (.ref a), some (.ref r), some vM, some (.int (m : Nat)), some vG, none, none, none, none, none, none, none] ?_
    refine q_setX (r_pick ev_v (.inl (en_lst (ea_cons ed_str (ea_cons ed_str (ea_cons ed_str (ea_cons ed_str (ea_cons ed_str ea_nil))))) (by simp))) (by simp) (by simp) hR4 fun vmn d H5 hd hvmn c5 hR5 => ?_)
    obtain ⟨mn, rfl⟩ := manner_of hd
    refine rd_start' [some (.ref a), some (.ref r), some vM, some (.int (m : Nat)), some vG, some vmn, none, none, none, none, none, none] ?_
    refine q_setR (er_taken (many := 7) ev_v ed_int hR5 (by decide) (by decide)) fun most H6 hmost c6 hR6 => ?_
    refine rd_start' [some (.ref a), some (.ref r), some vM, some (.int (m : Nat)), some vG, some vmn, some (.int (most : Nat)), none, none, none, none, none] ?_
    have k6 : Kp H H6 := k3.trans (c4.kp.trans (c5.kp.trans c6.kp))
    have hM6 := hvM.to (c3.kp.trans (c4.kp.trans (c5.kp.trans c6.kp)))
    have hG6 := hvG.to (c5.kp.trans c6.kp)
    have hmn6 := hvmn.to c6.kp
    have hT6 := hT.to k6
    clear hR1 hR2 hR3 hR4 hR5 hR6 c2 c3 c4 c5 c6 hvM hvG hvmn k3 hT
    obtain ⟨o, ho⟩ := leastH_ex (mn := mn) (M := M) (G := G) (most := most)
    refine r_par (r_cons ((ed_call (K := K) (R := R_law_least) (ea_cons (ed_v hM6) (ea_cons (ed_v hG6) (ea_cons (ed_v hmn6) (ea_cons ed_vi ea_nil)))) hT6 (Kp.refl _) ⟨M, G, m, mn, most, o, rfl, hH, by omega, ho, rfl⟩) H6 (Ext.refl _) _ fun v7 H7 e7 hv7 => r_cons ?_))
    refine (ea_cons (ed_v hM6) (ea_cons ed_vi (ea_cons (ed_v hG6) (ea_cons (ed_v hmn6) (ea_cons ed_vi ea_nil))))) H7 (Ext.refl _) _ fun vs H8 e8 hs => ⟨_, M, G, m, mn, most, by rw [List.append_nil]; exact hs, hT6.to (e7.trans e8).kp, rfl, hH, by omega, fun v8 H9 d0 e9 hv8 hd0 => r_nil ⟨_, _, rfl, ?_⟩⟩
    refine rd_start' [some (.ref a), some (.ref r), some vM, some (.int (m : Nat)), some vG, some vmn, some (.int (most : Nat)), some v7, some v8, none, none, none] ?_
    have e69 : Ext H6 H9 := e7.trans (e8.trans e9)
    have hv7 := hv7.to (e8.trans e9).kp
    have hM9 := hM6.to e69.kp
    have hG9 := hG6.to e69.kp
    have hmn9 := hmn6.to e69.kp
    have hT9 := hT6.to e69.kp
    refine q_skip (EdT.is (et_test (ed_op (ed_call (K := K) (R := R_shows_harm) (ea_cons (ed_v hM9) (ea_cons ed_vi (ea_cons (ed_v hG9) (ea_cons (ed_v hmn9) (ea_cons ed_vi (ea_cons (ed_v hv8) ea_nil)))))) hT9 (Kp.refl _) ⟨M, G, m, mn, most, d0, rfl, hH, by omega, hd0, rfl⟩) ed_bl rd_isnotB)) rfl) fun H10 e10 => ?_
    have hv7 := hv7.to e10.kp
    have hv8 := hv8.to e10.kp
    have hM := hM9.to e10.kp
    have hG := hG9.to e10.kp
    have hmn := hmn9.to e10.kp
    have hT := hT9.to e10.kp
    rcases hd0 with ⟨rfl, hl0⟩ | ⟨word, sts, rfl, hl0, hpath, hharm⟩
    · obtain rfl : o = none := leastH_one ho hl0
      refine q_if (k := true) (EdT.is (et_or (et_B (ed_isN (k := true) (ed_v hv8) (by simp))) fun z => et_B (ed_isN (k := true) (ed_v hv7) (by simp [eK]))) (by rfl)) (fun _ H11 e11 => ?_) fun z => by cases z
      exact st_ret (K := K) (Ed.is (ed_andV (ed_isN (k := true) (ed_v hv8) (by simp)) fun _ => ed_isN (k := true) (ed_v hv7) (by simp [eK])) (by rfl)) fun v H12 e12 hv => by
        cases hv
        exact hQ _
    · obtain rfl : o = some sts.length := leastH_one ho hl0
      have hle : sts.length ≤ 6 := Nat.le_trans hl0.1 (by omega)
      have hwo := harm_ok hharm
      refine q_skip (EdT.is (et_or (et_B (ed_isN (k := false) (ed_v hv8) (by simp))) fun z => et_B (ed_isN (k := false) (ed_v hv7) (by simp [eK, eN]))) (by rfl)) fun H11 e11 => ?_
      refine r_par (r_cons ?_)
      refine ⟨vmn, rfl, mn, vmn, rfl, hmn.to e11.kp, fun p H12 e12 np hL => r_cons ?_⟩
      have k1012 : Kp H10 H12 := (e11.trans e12).kp
      refine (ed_op (K := K) (ed_v (hv8.to k1012)) ed_int (rd_ix (d := .str word) (by rfl))) H12 (Ext.refl _) _ fun vw H13 e13 hvw => r_nil ⟨_, _, rfl, ?_⟩
      refine rd_start' [some (.ref a), some (.ref r), some vM, some (.int (m : Nat)), some vG, some vmn, some (.int (most : Nat)), some v7, some v8, some (.ref p), some vw, none] ?_
      have hk := k1012.trans e13.kp
      have hv7 := hv7.to hk
      have hv8 := hv8.to hk
      have hM := hM.to hk
      have hG := hG.to hk
      have hmn := hmn.to hk
      have hT := hT.to hk
      have hL := hL.to e13
      refine q_seq (st_forT (K := K) (ds := sts.map eStp) (ed_op (ed_v hv8) ed_int (rd_ix (by rfl))) (fun H14 j σ' H' => ∃ c : Option V, σ' = [some (.ref a), some (.ref r), some vM, some (.int (m : Nat)), some vG, some vmn, some (.int (most : Nat)), some v7, some v8, some (.ref p), some vw, c] ∧ Kp H13 H' ∧ Kp H14 H' ∧ LawB K [] H' p (lsOf mn (runW mn M G WS.start (sts.take j))))
        (fun H14 e14 => ⟨none, rfl, e14.kp, Kp.refl _, hL.to e14⟩) ?_ ?_ ?_)
      · rintro H14 j σ' H' ⟨c, _, _, z, _⟩
        exact z
      · rintro H14 j x d σ' H15 e14 hd ⟨c, rfl, k15, k14, hL15⟩ hx
        rw [List.getElem?_map] at hd
        obtain ⟨st, hst, rfl⟩ := Option.map_eq_some_iff.mp hd
        obtain ⟨hp, hc⟩ := path_at hpath hst
        have hg := run_good (mn := mn) hH (n := 0) good_start trivial (pathP_W hp)
        have hjl := (List.getElem?_eq_some_iff.mp hst).1
        have htl : (sts.take j).length ≤ 6 := by rw [List.length_take]; omega
        refine g_nm [some (.ref a), some (.ref r), some vM, some (.int (m : Nat)), some vG, some vmn, some (.int (most : Nat)), some v7, some v8, some (.ref p), some vw, some x] ?_
        refine q_skip (et_test (ed_ninL (K := K) (n := 3) (m := 3) (k := false) (ed_v hx) (en_callLG (R := R_law_bad_can) ev_v hL15 (ea_cons (ed_v (hM.to k15)) ea_nil) hT k15 ⟨M, G, m, _, rfl, hH, hg.1, by omega, rfl⟩).l ok_eStp (fun e he => ?_) ?_)) fun H16 e16 => ?_
        · obtain ⟨st', _, rfl⟩ := List.mem_map.mp he
          exact ok_eStp
        · have : eStp st ∈ (canW M (runW mn M G WS.start (sts.take j))).map eStp := List.mem_map_of_mem (canP_canW hc)
          simp [this]
        · refine st_callLW (K := K) (R := R_law_bad_step) ev_v (hL15.to e16) (ea_cons (ed_v (hM.to (k15.trans e16.kp))) (ea_cons (ed_v (hG.to (k15.trans e16.kp))) (ea_cons (ed_v (hx.to e16.kp)) ea_nil))) hT (k15.trans e16.kp) ⟨M, G, m, _, st, rfl, hH, hg.1, by omega, canP_canW hc, rfl⟩ fun H17 c17 hL17 => ?_
          refine ⟨_, rfl, k15.trans (e16.kp.trans c17.kp), k14.trans (e16.kp.trans c17.kp), ?_⟩
          rw [List.take_add_one, hst]
          show LawB K [] H17 p (lsOf mn (runW mn M G WS.start (sts.take j ++ [st])))
          rw [run_snoc]
          exact hL17
      · rintro H14 σ' H15 e14 ⟨c, rfl, k15, k14, hL15⟩
        rw [List.length_map, List.take_length] at hL15
        have hg := run_good (mn := mn) hH (n := 0) good_start trivial (pathP_W hpath)
        have hv7 := hv7.to k15
        have hv8 := hv8.to k15
        have hM := hM.to k15
        have hG := hG.to k15
        have hmn := hmn.to k15
        have hvw := hvw.to k15
        refine q_skip (EdT.is (et_or (et_test (K := K) (ed_op (ed_lenT (ed_op (ed_v hv8) ed_int (rd_ix (by rfl)))) (ed_v hv7) rd_neI)) fun _ => et_test (K := K) (ed_op (Ed.is (ed_callLF (R := R_law_bad_harm) ev_v hL15 (ea_cons (ed_v hM) (ea_cons (ed_v hG) ea_nil)) hT k15 ⟨M, G, m, _, rfl, hH, hg.1, by omega, rfl⟩) (by rw [hharm]; rfl)) (ed_v hvw) (rd_neS hwo hwo))) (by simp)) fun H16 e16 => ?_
        by_cases hs : mn = .sealed
        · subst hs
          obtain ⟨rfl, hno⟩ := seal_harm hH (start_rch hpath).1 hharm
          exact st_ret (K := K) (Ed.is (c := .bl true) (ed_orV (ed_op (ed_v hmn) ed_str (rd_neS (Mn.ok _) (Mn.ok .sealed))) fun _ => ed_andV (ed_op (ed_safeF (k0 := H16) (ea_cons (ed_v hM) (ea_cons ed_vi (ea_cons (ed_v hG) ea_nil))) hT (k15.trans e16.kp) hH fun F => hno _ F) ed_bl rd_isB) fun _ => ed_op (ed_v hvw) ed_str (rd_eqS hwo hwo)) (by simp)) fun v H17 e17 hv => by
            cases hv
            exact hQ _
        · have hne : decide (mn.s ≠ Mn.s .sealed) = true := decide_eq_true fun z => hs (Mn.inj.mp z)
          exact st_ret (K := K) (Ed.is (c := .bl true) (ed_orV (k := decide (mn.s ≠ Mn.s .sealed)) (j := true) (ed_op (ed_v hmn) ed_str (rd_neS (Mn.ok _) (Mn.ok .sealed))) fun z => by rw [hne] at z; cases z) (by simp)) fun v H17 e17 hv => by
            cases hv
            exact hQ _
end
end K29
set_option Elab.async false
set_option linter.all false
set_option maxRecDepth 100000
set_option maxHeartbeats 0
/-! the head: what it tells, the law -/
namespace K29
open PySem PySem.Spec PyProof.Rows L2
theorem facts {w : World} {K : PySem.W.Frag} {h : Heap} {mg : Str → Option Value} {f : Addr} (X : K.In h) (G : h.Ns mainGlobals mg) (hfa : mg ("law" : Str) = some (.ref f)) (c : He.SaysX fas fn [] tf exB w h K) :
    LamX.LawAtS PySem.Challenge.rw_onelife_k29_whole_harms w K CX0 16 63 "_law_script" mg f h := by
  obtain ⟨fd, F⟩ : ∃ fd, FunD K d_law.name d_law.qual d_law.params d_law.body d_law.scope (d_law.dvs K) (d_law.kws K) (He.fAd K d_law.at_) fd := c.t.d.def_ 71
  have e := hfa.symm.trans (He.glo_ok X G (c.t.d.fact 48 (f := .glo "law") rfl))
  cases e
  have b := FunD.bindsA (ps := ["_law_script"]) F fun _ _ _ _ _ _ us hl => match us, hl with | [_], _ => rfl
  refine ⟨fd, tf.map (He.cT K), SpLaw K (TL K), fun p hp => ?_, fun p hp => ?_, fun p hp => ?_, fun s v => b s [v] rfl, fun H a ns hl _ hH hS => ?_, fun base KB NB TB => ?_⟩
  · obtain ⟨q, hq, rfl⟩ := List.mem_map.mp hp
    exact c.empty q hq
  · obtain ⟨q, hq, rfl⟩ := List.mem_map.mp hp
    exact c.out q hq
  · obtain ⟨q, hq, rfl⟩ := List.mem_map.mp hp
    exact PySem.W.codeHd_of_K X (c.hd q hq)
  · refine ⟨a, ns, rfl, fun P hP => ?_, hS, fun _ => rfl⟩
    obtain ⟨q, hq, rfl⟩ := List.mem_map.mp hP
    exact ⟨#[], hH _ (List.mem_map_of_mem hq), trivial⟩
  · have T : Txt w K mg base := ⟨⟨h, X, G, c⟩, fun p hp => by
      have z := TB _ (List.mem_map_of_mem hp)
      exact ⟨z.code, z.bm, z.gP⟩⟩
    exact ok_law T F
end K29
open PySem PySem.W PySem.Calls PyProof.Rows
theorem PySem.Challenge.cw_onelife_k29_whole_harms_holds : PySem.Challenge.rw_onelife_k29_whole_harms.Holds := by
  w_on; o_law
  refine HandSHeadRun.head_any (r := OpenLaw.row PySem.Challenge.rw_onelife_k29_whole_harms) (q := K29.qv) (H := K29.hk) (ob := K29.ob) (M := 40000) (loose := K29.loose) (d := HandSHeadRun.topDef (OpenLaw.row PySem.Challenge.rw_onelife_k29_whole_harms).prog 76) (kwd := []) K29.ob_eq
    (by kernel_rfl) (fun s => by kernel_rfl) K29.run (by kernel_rfl) (by kernel_rfl) (by kernel_rfl) (by rfl) (by first | assumption | decide +kernel) (by decide +kernel) ⟨rfl, rfl, rfl, rfl, rfl, by decide +kernel⟩ ?hw ?hc
  case hw => w_witness2
  case hc =>
    refine LamX.walk_ofTsE (l := PySem.Challenge.rw_onelife_k29_whole_harms) (n := 63) (k := 16) (x := "_law_script") (CX := fun _ => L2.CX0) rfl (by decide) (by kernel_rfl) ⟨rfl, by decide, by decide⟩ ?F (fun _ _ _ _ _ z => z)
    intro w mg fa h Y G hmg0
    obtain ⟨K, KX, c⟩ := Y
    have hmg : mg ("law" : PySem.Str) = some (.ref fa) := by
      have e : (HandSHeadRun.topDef (OpenLaw.row PySem.Challenge.rw_onelife_k29_whole_harms).prog 76).name = ("law" : PySem.Str) := by kernel_rfl
      rw [← e]
      exact hmg0
    exact ⟨K, KX, K29.facts KX G hmg c⟩
