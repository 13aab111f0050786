import PyProof.Rows.All
import Wide.All
import OpenK.AllK
import Wide.FinOn
import KE.KStateDown
import HandS.ForMost
import HandS.Exc
import HandS.Defaults
import HandS.Lambda
import HandS.Flow
import HandS.TupAny
import HandS.TupLe
import HandS.Deep
import HandS.Conv
import HandS.IsInst
import HandS.SetKeys
import HandS.FStr
import PySem.Challenge.RW_tablebills_k79_names_turned
import HandS.Text
import HandS.Small
import HandS.More
import HandS.TupLen
import HandS.WordsDict
import PyProof.ReprRoads
import PyProof.Rows.TmSorted
import KE.KDictPairs
import HandS.RaiseMore
import HandS.Comp
import HandS.Iter
import HandS.Zip
import HandS.Style
import HandS.Ends
import HandS.HeadEnd
import HandS.HeadHook1
import HandS.HeadHook2
import HandS.HeadHook3
import HandS.Head0
import HandS.Head1
import HandS.Head2
import HandS.Set
import HandS.SetFor
import HandS.Strs
import PyProof.StrLawsRepr
import PyProof.FitsInt
set_option Elab.async false
set_option linter.all false
set_option maxRecDepth 100000
set_option maxHeartbeats 4000000
/-! Tr: values of Python as trees, a heap of what may change, every def a Lean function. -/
namespace Tr
open PySem PySem.Spec PyProof.Rows L2

/-- a value: tuples are trees; obj i is the i-th thing that may change; klst a list that is only read -/
inductive D where
  | non | bl (b : Bool) | int (i : Int) | str (x : Str) | ty (n : String) | adr (a : Addr) | obj (i : Nat)
  | tup (xs : List D) | ktup (xs : List D) | klst (xs : List D)
/-- what may change -/
inductive MO where
  | lst (xs : List D)
  | dK (kvs : List (Key × D)) | dT (kvs : List (List Key × D))
  | lkK (kvs : List (Key × D)) | lkT (kvs : List (List Key × D))
  | ins (C : Addr) (fs : List (Str × D))
abbrev Mem := List MO
/-- an exception: its class, its own fields -/
structure XD where
  cls : Value
  fs : Option (List (Str × D))
inductive R (α : Type) where
  | ok (a : α) (M : Mem) | exc (x : XD) (M : Mem) | bad
def R.bind {α β : Type} (r : R α) (f : α → Mem → R β) : R β := match r with
  | .ok a M => f a M
  | .exc x M => .exc x M
  | .bad => .bad
@[simp] theorem R.bind_ok {α β : Type} (a : α) (M : Mem) (f : α → Mem → R β) : (R.ok a M).bind f = f a M := rfl
@[simp] theorem R.bind_exc {α β : Type} (x : XD) (M : Mem) (f : α → Mem → R β) : (R.exc x M : R α).bind f = .exc x M := rfl
@[simp] theorem R.bind_bad {α β : Type} (f : α → Mem → R β) : (R.bad : R α).bind f = .bad := rfl

/-! ### what stands for what -/
/-- a tuple of the module's own -/
def KTat (K : PySem.W.Frag) (a : Addr) (vs : List V) : Prop := ∃ (o : Obj) (its : Array Value) (n : Nat), K.lookup a = some o ∧ o.cls = .type "tuple" ∧ o.dict = none ∧ o.data = .seq its n ∧ its.size ≤ sizeLine ∧ Vals vs its.toList
/-- a tuple whose object has no dict -/
def PTat (H : Hp) (a : Addr) (vs : List V) : Prop := ∃ o, H a = some (.frz o (.tup vs)) ∧ o.dict = none
def KPat (K : PySem.W.Frag) (H : Hp) (a : Addr) (vs : List V) : Prop := KTat K a vs ∨ PTat H a vs
/-- a list that is only read: frozen, or the module's own -/
def KLat (K : PySem.W.Frag) (H : Hp) (a : Addr) (vs : List V) : Prop := (∃ o, H a = some (.frz o (.lst vs))) ∨
  ∃ (o : Obj) (its : Array Value) (n : Nat), K.lookup a = some o ∧ o.cls = .type "list" ∧ o.dict = none ∧ o.data = .seq its n ∧ its.size ≤ sizeLine ∧ Vals vs its.toList
mutual
def Rep (K : PySem.W.Frag) (rho : List Addr) (H : Hp) : D → V → Prop
  | .non, v => v = .non
  | .bl b, v => v = .bl b
  | .int i, v => v = .int i
  | .str x, v => v = .str x
  | .ty n, v => v = .ty n
  | .adr a, v => v = .ref a
  | .obj i, v => ∃ a, rho[i]? = some a ∧ v = .ref a
  | .tup xs, v => ∃ a vs, v = .ref a ∧ H a = some (.tup vs) ∧ Reps K rho H xs vs
  | .ktup xs, v => ∃ a vs, v = .ref a ∧ KPat K H a vs ∧ Reps K rho H xs vs
  | .klst xs, v => ∃ a vs, v = .ref a ∧ KLat K H a vs ∧ Reps K rho H xs vs
def Reps (K : PySem.W.Frag) (rho : List Addr) (H : Hp) : List D → List V → Prop
  | [], vs => vs = []
  | x :: xs, vs => ∃ v r, vs = v :: r ∧ Rep K rho H x v ∧ Reps K rho H xs r
end
def RepKV {k : Type} (K : PySem.W.Frag) (rho : List Addr) (H : Hp) : List (k × D) → List (k × V) → Prop
  | [], vs => vs = []
  | (a, x) :: xs, vs => ∃ v r, vs = (a, v) :: r ∧ Rep K rho H x v ∧ RepKV K rho H xs r
def RepO (K : PySem.W.Frag) (rho : List Addr) (H : Hp) : MO → HO → Prop
  | .lst xs, ho => ∃ vs, ho = .lst vs ∧ Reps K rho H xs vs
  | .dK xs, ho => ∃ vs, ho = .dK vs ∧ RepKV K rho H xs vs
  | .dT xs, ho => ∃ vs, ho = .dT vs ∧ RepKV K rho H xs vs
  | .lkK xs, ho => ∃ o vs, ho = .frz o (.dK vs) ∧ RepKV K rho H xs vs
  | .lkT xs, ho => ∃ o vs, ho = .frz o (.dT vs) ∧ RepKV K rho H xs vs
  | .ins C xs, ho => ∃ dx vs, ho = .ins C dx vs ∧ RepKV K rho H xs vs
/-- what a mutable thing's place may hold -/
def MutO : HO → Prop
  | .lst _ => True
  | .dK _ => True
  | .dT _ => True
  | .ins _ _ _ => True
  | .frz _ (.dK _) => True
  | .frz _ (.dT _) => True
  | _ => False
theorem RepO.mut {K : PySem.W.Frag} {rho : List Addr} {H : Hp} {m : MO} {o : HO} (r : RepO K rho H m o) : MutO o := by
  cases m with
  | lst xs => obtain ⟨_, rfl, _⟩ := r; trivial
  | dK xs => obtain ⟨_, rfl, _⟩ := r; trivial
  | dT xs => obtain ⟨_, rfl, _⟩ := r; trivial
  | lkK xs => obtain ⟨_, _, rfl, _⟩ := r; trivial
  | lkT xs => obtain ⟨_, _, rfl, _⟩ := r; trivial
  | ins C xs => obtain ⟨_, _, rfl, _⟩ := r; trivial

structure Gam where
  K : PySem.W.Frag
  T : List (Addr × Str)
/-- the memory M stands in H, the i-th thing at the i-th of rho -/
structure RelH (G : Gam) (rho : List Addr) (M : Mem) (H : Hp) : Prop where
  len : M.length = rho.length
  nd : rho.Nodup
  obj : ∀ (i : Nat) (m : MO), M[i]? = some m → ∃ a o, rho[i]? = some a ∧ H a = some o ∧ RepO G.K rho H m o
  tb : LamX.Tabs G.T H
/-- what goes on: more things, all that is not ours is kept (tables may grow) -/
structure Post (rho : List Addr) (H : Hp) (rho' : List Addr) (H' : Hp) : Prop where
  ext : ∃ more, rho' = rho ++ more ∧ ∀ a ∈ more, H a = none
  keep : ∀ b o, H b = some o → b ∉ rho → (∀ ps, o ≠ .tbl ps) → H' b = some o
  dom : ∀ b, H' b = none → H b = none
theorem Post.refl (rho : List Addr) (H : Hp) : Post rho H rho H := ⟨⟨[], by simp, by simp⟩, fun _ _ e _ _ => e, fun _ e => e⟩
theorem Post.trans {r0 r1 r2 : List Addr} {H0 H1 H2 : Hp} (a : Post r0 H0 r1 H1) (b : Post r1 H1 r2 H2) : Post r0 H0 r2 H2 := by
  obtain ⟨m1, e1, f1⟩ := a.ext
  obtain ⟨m2, e2, f2⟩ := b.ext
  have nin : ∀ c o, H0 c = some o → c ∉ r0 → c ∉ r1 := fun c o e n z => by
    rw [e1] at z
    rcases List.mem_append.mp z with z | z
    · exact n z
    · rw [f1 c z] at e; cases e
  refine ⟨⟨m1 ++ m2, by rw [e2, e1, List.append_assoc], fun c hc => ?_⟩, fun c o e n t => b.keep c o (a.keep c o e n t) (nin c o e n) t, fun c e => a.dom c (b.dom c e)⟩
  rcases List.mem_append.mp hc with z | z
  · exact f1 c z
  · exact a.dom c (f2 c z)
theorem Post.get {r0 r1 : List Addr} {H0 H1 : Hp} (p : Post r0 H0 r1 H1) {i : Nat} {a : Addr} (h : r0[i]? = some a) : r1[i]? = some a := by
  obtain ⟨m, e, _⟩ := p.ext
  rw [e, List.getElem?_append_left (List.getElem?_eq_some_iff.mp h).1]
  exact h
section
variable {G : Gam} {rho rho' : List Addr} {M M' : Mem} {H H' : Hp}
theorem RelH.mem (r : RelH G rho M H) {a : Addr} (h : a ∈ rho) : ∃ (i : Nat) (m : MO) (o : HO), rho[i]? = some a ∧ M[i]? = some m ∧ H a = some o ∧ RepO G.K rho H m o := by
  obtain ⟨i, hi, e⟩ := List.mem_iff_getElem.mp h
  have hM : i < M.length := by rw [r.len]; exact hi
  obtain ⟨b, o, h1, h2, h3⟩ := r.obj i M[i] (by simp [hM])
  have hb : b = a := by
    rw [List.getElem?_eq_getElem hi, e] at h1
    exact (Option.some.inj h1).symm
  subst hb
  exact ⟨i, M[i], o, h1, by simp [hM], h2, h3⟩
theorem RelH.notIn (r : RelH G rho M H) {a : Addr} {o : HO} (h : H a = some o) (n : ¬ MutO o) : a ∉ rho := fun z => by
  obtain ⟨i, m, o', _, _, e, q⟩ := r.mem z
  rw [h] at e
  cases e
  exact n q.mut
theorem RelH.fresh (r : RelH G rho M H) {a : Addr} (h : H a = none) : a ∉ rho := fun z => by
  obtain ⟨i, m, o', _, _, e, q⟩ := r.mem z
  rw [h] at e
  cases e
theorem klat_post (p : Post rho H rho' H') (n : ∀ a o, H a = some o → ¬ MutO o → a ∉ rho) {K : PySem.W.Frag} {a : Addr} {vs : List V} (h : KLat K H a vs) : KLat K H' a vs := by
  rcases h with ⟨o, h⟩ | h
  · exact .inl ⟨o, p.keep a _ h (n a _ h (fun z => z)) (fun _ z => by cases z)⟩
  · exact .inr h
theorem KLat.sq {K : PySem.W.Frag} {a : Addr} {vs : List V} (h : KLat K H a vs) : SqL K H a vs := by
  rcases h with ⟨o, h⟩ | h
  · exact .inl (.inr ⟨o, h⟩)
  · exact .inr h
theorem kpat_post (p : Post rho H rho' H') (n : ∀ a o, H a = some o → ¬ MutO o → a ∉ rho) {K : PySem.W.Frag} {a : Addr} {vs : List V} (h : KPat K H a vs) : KPat K H' a vs := by
  rcases h with h | ⟨o, h, d⟩
  · exact .inl h
  · exact .inr ⟨o, p.keep a _ h (n a _ h (fun z => z)) (fun _ z => by cases z), d⟩
theorem KPat.sq {K : PySem.W.Frag} {a : Addr} {vs : List V} (h : KPat K H a vs) : SqT K H a vs := by
  rcases h with ⟨o, its, n, h1, h2, _, h3⟩ | ⟨o, h, d⟩
  · exact .inr ⟨o, its, n, h1, h2, h3⟩
  · exact .inl (.inr ⟨o, h⟩)
mutual
theorem rep_post (p : Post rho H rho' H') (n : ∀ a o, H a = some o → ¬ MutO o → a ∉ rho) {K : PySem.W.Frag} : ∀ (d : D) (v : V), Rep K rho H d v → Rep K rho' H' d v
  | .non, v, h => h
  | .bl b, v, h => h
  | .int i, v, h => h
  | .str x, v, h => h
  | .ty x, v, h => h
  | .adr a, v, h => h
  | .obj i, v, h => by
    obtain ⟨a, h1, h2⟩ := h
    exact ⟨a, p.get h1, h2⟩
  | .tup xs, v, h => by
    obtain ⟨a, vs, h1, h2, h3⟩ := h
    exact ⟨a, vs, h1, p.keep a _ h2 (n a _ h2 (fun z => z)) (fun _ z => by cases z), reps_post p n xs vs h3⟩
  | .ktup xs, v, h => by
    obtain ⟨a, vs, h1, h2, h3⟩ := h
    exact ⟨a, vs, h1, kpat_post p n h2, reps_post p n xs vs h3⟩
  | .klst xs, v, h => by
    obtain ⟨a, vs, h1, h2, h3⟩ := h
    exact ⟨a, vs, h1, klat_post p n h2, reps_post p n xs vs h3⟩
theorem reps_post (p : Post rho H rho' H') (n : ∀ a o, H a = some o → ¬ MutO o → a ∉ rho) {K : PySem.W.Frag} : ∀ (ds : List D) (vs : List V), Reps K rho H ds vs → Reps K rho' H' ds vs
  | [], vs, h => h
  | x :: xs, vs, h => by
    obtain ⟨v, r, h1, h2, h3⟩ := h
    exact ⟨v, r, h1, rep_post p n x v h2, reps_post p n xs r h3⟩
end
theorem repKV_post (p : Post rho H rho' H') (n : ∀ a o, H a = some o → ¬ MutO o → a ∉ rho) {K : PySem.W.Frag} {k : Type} : ∀ (ds : List (k × D)) (vs : List (k × V)), RepKV K rho H ds vs → RepKV K rho' H' ds vs
  | [], vs, h => h
  | (a, x) :: xs, vs, h => by
    obtain ⟨v, r, h1, h2, h3⟩ := h
    exact ⟨v, r, h1, rep_post p n x v h2, repKV_post p n xs r h3⟩
theorem repO_post (p : Post rho H rho' H') (n : ∀ a o, H a = some o → ¬ MutO o → a ∉ rho) {K : PySem.W.Frag} (m : MO) (o : HO) (h : RepO K rho H m o) : RepO K rho' H' m o := by
  cases m with
  | lst xs => obtain ⟨vs, h1, h2⟩ := h; exact ⟨vs, h1, reps_post p n _ _ h2⟩
  | dK xs => obtain ⟨vs, h1, h2⟩ := h; exact ⟨vs, h1, repKV_post p n _ _ h2⟩
  | dT xs => obtain ⟨vs, h1, h2⟩ := h; exact ⟨vs, h1, repKV_post p n _ _ h2⟩
  | lkK xs => obtain ⟨o, vs, h1, h2⟩ := h; exact ⟨o, vs, h1, repKV_post p n _ _ h2⟩
  | lkT xs => obtain ⟨o, vs, h1, h2⟩ := h; exact ⟨o, vs, h1, repKV_post p n _ _ h2⟩
  | ins C xs => obtain ⟨o, vs, h1, h2⟩ := h; exact ⟨o, vs, h1, repKV_post p n _ _ h2⟩
theorem RelH.no (r : RelH G rho M H) : ∀ a o, H a = some o → ¬ MutO o → a ∉ rho := fun _ _ h n => r.notIn h n
theorem RelH.rep (r : RelH G rho M H) (p : Post rho H rho' H') {d : D} {v : V} (h : Rep G.K rho H d v) : Rep G.K rho' H' d v := rep_post p r.no d v h
theorem RelH.reps (r : RelH G rho M H) (p : Post rho H rho' H') {d : List D} {v : List V} (h : Reps G.K rho H d v) : Reps G.K rho' H' d v := reps_post p r.no d v h
theorem RelH.repKV (r : RelH G rho M H) (p : Post rho H rho' H') {k : Type} {d : List (k × D)} {v : List (k × V)} (h : RepKV G.K rho H d v) : RepKV G.K rho' H' d v := repKV_post p r.no d v h

theorem tabs_upd {T : List (Addr × Str)} {a : Addr} {o : HO} (t : LamX.Tabs T H) (h : H a = none ∨ ∃ u, H a = some u ∧ MutO u) : LamX.Tabs T (upd H a o) := fun q hq => by
  have ne : ∀ b u, H b = some u → ¬ MutO u → b ≠ a := fun b u e n z => by
    subst z
    rcases h with h | ⟨u', h, m⟩
    · rw [e] at h; cases h
    · rw [e] at h; cases h; exact n m
  obtain ⟨ps, h1, h2, h3⟩ := t q hq
  refine ⟨ps, by rw [upd_ne (ne _ _ h1 (fun z => z))]; exact h1, h2, fun pos cv hc => ?_⟩
  obtain ⟨c, e1, e2⟩ := h3 pos cv hc
  exact ⟨c, e1, by rw [upd_ne (ne _ _ e2 (fun z => z))]; exact e2⟩
/-- a new thing that is none of ours (a tuple) -/
theorem Post.side {a : Addr} {o : HO} (h : H a = none) : Post rho H rho (upd H a o) :=
  ⟨⟨[], by simp, by simp⟩, fun b u e _ _ => by rw [upd_ne (ne_of_none e h)]; exact e, fun b e => by
    by_cases hb : b = a
    · subst hb; exact h
    · rw [upd_ne hb] at e; exact e⟩
theorem RelH.side {a : Addr} {o : HO} (r : RelH G rho M H) (h : H a = none) : RelH G rho M (upd H a o) :=
  ⟨r.len, r.nd, fun i m e => by
    obtain ⟨b, u, h1, h2, h3⟩ := r.obj i m e
    exact ⟨b, u, h1, by rw [upd_ne (ne_of_none h2 h)]; exact h2, repO_post (Post.side h) r.no m u h3⟩, tabs_upd r.tb (.inl h)⟩
/-- a new thing of ours -/
theorem Post.new {a : Addr} {o : HO} (h : H a = none) : Post rho H (rho ++ [a]) (upd H a o) :=
  ⟨⟨[a], rfl, fun b hb => by rw [List.mem_singleton.mp hb]; exact h⟩, fun b u e _ _ => by rw [upd_ne (ne_of_none e h)]; exact e, fun b e => by
    by_cases hb : b = a
    · subst hb; exact h
    · rw [upd_ne hb] at e; exact e⟩
theorem RelH.new {a : Addr} {o : HO} {m : MO} (r : RelH G rho M H) (h : H a = none) (q : RepO G.K rho H m o) : RelH G (rho ++ [a]) (M ++ [m]) (upd H a o) := by
  have p : Post rho H (rho ++ [a]) (upd H a o) := Post.new h
  refine ⟨by simp [r.len], List.nodup_append.mpr ⟨r.nd, by simp, fun x hx y hy => ?_⟩, fun i m' e => ?_, tabs_upd r.tb (.inl h)⟩
  · rw [List.mem_singleton.mp hy]
    rintro rfl
    exact r.fresh h hx
  · by_cases hi : i < M.length
    · rw [List.getElem?_append_left hi] at e
      obtain ⟨b, u, h1, h2, h3⟩ := r.obj i m' e
      exact ⟨b, u, p.get h1, by rw [upd_ne (ne_of_none h2 h)]; exact h2, repO_post p r.no m' u h3⟩
    · rw [List.getElem?_append_right (by omega)] at e
      have hi2 : i = M.length := by
        have := (List.getElem?_eq_some_iff.mp e).1
        simp at this
        omega
      subst hi2
      simp at e
      subst e
      refine ⟨a, o, by rw [r.len, List.getElem?_append_right (Nat.le_refl _)]; simp, upd_same, repO_post p r.no m o q⟩
/-- a thing of ours changes -/
theorem Post.put {a : Addr} {o u : HO} (h : H a = some u) (ha : a ∈ rho) : Post rho H rho (upd H a o) :=
  ⟨⟨[], by simp, by simp⟩, fun b w e n _ => by rw [upd_ne (fun z => n (by rw [z]; exact ha))]; exact e, fun b e => by
    by_cases hb : b = a
    · subst hb; rw [upd_same] at e; cases e
    · rw [upd_ne hb] at e; exact e⟩
theorem RelH.put {i : Nat} {a : Addr} {o u : HO} {m : MO} (r : RelH G rho M H) (hi : rho[i]? = some a) (h : H a = some u) (q : RepO G.K rho H m o) : RelH G rho (M.set i m) (upd H a o) := by
  have ha : a ∈ rho := List.mem_of_getElem? hi
  have p : Post rho H rho (upd H a o) := Post.put h ha
  refine ⟨by simp [r.len], r.nd, fun j m' e => ?_, tabs_upd r.tb (.inr ⟨u, h, ?_⟩)⟩
  · by_cases hj : j = i
    · subst hj
      have hl : j < M.length := by rw [r.len]; exact (List.getElem?_eq_some_iff.mp hi).1
      rw [List.getElem?_set_self hl] at e
      cases e
      exact ⟨a, o, hi, upd_same, repO_post p r.no m o q⟩
    · rw [List.getElem?_set_ne (Ne.symm hj)] at e
      obtain ⟨b, w, h1, h2, h3⟩ := r.obj j m' e
      have hb : b ≠ a := fun z => by
        subst z
        obtain ⟨k1, e1⟩ := List.getElem?_eq_some_iff.mp h1
        obtain ⟨k2, e2⟩ := List.getElem?_eq_some_iff.mp hi
        exact hj ((List.getElem_inj r.nd).mp (e1.trans e2.symm))
      exact ⟨b, w, h1, by rw [upd_ne hb]; exact h2, repO_post p r.no m' w h3⟩
  · obtain ⟨_, _, o', _, _, e, q'⟩ := r.mem ha
    rw [h] at e
    cases e
    exact q'.mut
theorem RelH.at (r : RelH G rho M H) {i : Nat} {a : Addr} {m : MO} (hi : rho[i]? = some a) (hm : M[i]? = some m) : ∃ o, H a = some o ∧ RepO G.K rho H m o := by
  obtain ⟨b, o, h1, h2, h3⟩ := r.obj i m hm
  rw [hi] at h1
  cases h1
  exact ⟨o, h2, h3⟩
end
end Tr

set_option Elab.async false
set_option linter.all false
set_option maxRecDepth 100000
set_option maxHeartbeats 4000000
namespace Tr
open PySem PySem.Spec PyProof.Rows L2

abbrev DEnv := List (Option D)
def RepEnv (K : PySem.W.Frag) (rho : List Addr) (H : Hp) (env : DEnv) (sg : L2.St) : Prop :=
  env.length = sg.length ∧ ∀ (i : Nat) (d : D), env[i]? = some (some d) → ∃ v, sg[i]? = some (some v) ∧ Rep K rho H d v
/-- an exception as it lies: its class, its own dict -/
def RepX (K : PySem.W.Frag) (rho : List Addr) (H : Hp) (x : XD) (d : Option Addr) : Prop := match x.fs with
  | none => d = none
  | some fs => ∃ a vs, d = some a ∧ H a = some (.xd vs) ∧ RepKV K rho H fs vs
/-- what is so behind a run -/
def Fin {α : Type} (G : Gam) (W : XK) (rho : List Addr) (H : Hp) (r : R α) (k : α → List Addr → Mem → Hp → Prop) : Prop := match r with
  | .ok a M => ∀ rho' H', Post rho H rho' H' → RelH G rho' M H' → k a rho' M H'
  | .exc x M => ∀ rho' H' d, Post rho H rho' H' → RelH G rho' M H' → RepX G.K rho' H' x d → W x.cls d H'
  | .bad => False
section
variable {G : Gam} {W : XK} {rho rho1 : List Addr} {H H1 : Hp} {M : Mem} {α β : Type}
theorem Fin.post {r : R α} {k : α → List Addr → Mem → Hp → Prop} (h : Fin G W rho H r k) (p : Post rho H rho1 H1) : Fin G W rho1 H1 r k := by
  cases r with
  | ok a M => exact fun r2 H2 p2 q2 => h r2 H2 (p.trans p2) q2
  | exc x M => exact fun r2 H2 d p2 q2 z => h r2 H2 d (p.trans p2) q2 z
  | bad => exact h
theorem Fin.bind {r : R α} {g : α → Mem → R β} {k : β → List Addr → Mem → Hp → Prop} (h : Fin G W rho H (r.bind g) k) :
    Fin G W rho H r (fun a rho1 M1 H1 => Fin G W rho1 H1 (g a M1) k) := by
  cases r with
  | ok a M => exact fun r1 H1 p1 _ => Fin.post (show Fin G W rho H (g a M) k from h) p1
  | exc x M => exact h
  | bad => exact h
theorem Fin.mono {r : R α} {k k' : α → List Addr → Mem → Hp → Prop} (h : Fin G W rho H r k) (q : ∀ a r1 M1 H1, Post rho H r1 H1 → RelH G r1 M1 H1 → k a r1 M1 H1 → k' a r1 M1 H1) : Fin G W rho H r k' := by
  cases r with
  | ok a M => exact fun r1 H1 p1 h1 => q a r1 M H1 p1 h1 (h r1 H1 p1 h1)
  | exc x M => exact h
  | bad => exact h
theorem Fin.here {a : α} {k : α → List Addr → Mem → Hp → Prop} (h : Fin G W rho H (.ok a M) k) (r : RelH G rho M H) : k a rho M H := h rho H (Post.refl rho H) r
theorem RepEnv.post {env : DEnv} {sg : L2.St} (e : RepEnv G.K rho H env sg) (r : RelH G rho M H) (p : Post rho H rho1 H1) : RepEnv G.K rho1 H1 env sg :=
  ⟨e.1, fun i d h => by
    obtain ⟨v, h1, h2⟩ := e.2 i d h
    exact ⟨v, h1, r.rep p h2⟩⟩
end

/-! ### the readings -/
abbrev EF := DEnv → Mem → R D
abbrev TF := DEnv → Mem → R Bool
abbrev AF := DEnv → Mem → R (List D)
def dE (G : Gam) (W : WX) (f : EF) : TE := fun sg H Q => ∃ rho env M, RelH G rho M H ∧ RepEnv G.K rho H env sg ∧ Fin G (fun c d H' => W c d sg H') rho H (f env M) fun d rho' _ H' => ∀ v, Rep G.K rho' H' d v → Q v H'
def dT (G : Gam) (W : WX) (f : TF) : TT := fun sg H Q => ∃ rho env M, RelH G rho M H ∧ RepEnv G.K rho H env sg ∧ Fin G (fun c d H' => W c d sg H') rho H (f env M) fun b _ _ H' => Q b H'
def dA (G : Gam) (W : WX) (f : AF) : TA := fun sg H Q => ∃ rho env M, RelH G rho M H ∧ RepEnv G.K rho H env sg ∧ Fin G (fun c d H' => W c d sg H') rho H (f env M) fun ds rho' _ H' => ∀ vs, Reps G.K rho' H' ds vs → Q vs H'
abbrev gm (X : Cx) (T : List (Addr × Str)) : Gam := ⟨X.K, T⟩
abbrev DE (X : Cx) (T : List (Addr × Str)) (W : WX) (e : Expr) (f : EF) : Prop := PE X e (dE (gm X T) W f)
abbrev DT (X : Cx) (T : List (Addr × Str)) (W : WX) (e : Expr) (f : TF) : Prop := PT X e (dT (gm X T) W f)
abbrev DA (X : Cx) (T : List (Addr × Str)) (W : WX) (es : List Expr) (f : AF) : Prop := PA X es (dA (gm X T) W f)
theorem pe_imp {X : Cx} {e : Expr} {t t' : TE} (h : PE X e t) (i : ∀ sg H Q, t' sg H Q → t sg H Q) : PE X e t' := ⟨fun pins s sg H Q I q => h.run pins s sg H Q I (i sg H Q q)⟩
theorem pt_imp {X : Cx} {e : Expr} {t t' : TT} (h : PT X e t) (i : ∀ sg H Q, t' sg H Q → t sg H Q) : PT X e t' := ⟨fun pins s sg H Q I q => h.run pins s sg H Q I (i sg H Q q)⟩
theorem pw_imp {X : Cx} {e : Expr} {t t' : TT} (h : PW X e t) (i : ∀ sg H Q, t' sg H Q → t sg H Q) : PW X e t' := ⟨fun wh pins s sg H Q I q => h.run wh pins s sg H Q I (i sg H Q q)⟩
theorem pa_imp {X : Cx} {e : List Expr} {t t' : TA} (h : PA X e t) (i : ∀ sg H Q, t' sg H Q → t sg H Q) : PA X e t' := ⟨fun pos pins s sg H Q I q => h.run pos pins s sg H Q I (i sg H Q q)⟩

section
variable {X : Cx} {T : List (Addr × Str)} {G : Gam} {W : WX} {a b c : Expr} {fa fb fc : EF} {pos : Pos} {es : List Expr}
/-! ### names, constants -/
def eVar (i : Nat) : EF := fun env M => match env[i]? with
  | some (some d) => .ok d M
  | _ => .bad
theorem d_var {i : Nat} (h : PE X a (tVar i)) : DE X T W a (eVar i) := pe_imp h fun sg H Q ⟨rho, env, M, r, e, h⟩ => by
  unfold eVar at h
  split at h
  · rename_i d hd
    obtain ⟨v, h1, h2⟩ := e.2 i d hd
    exact ⟨v, h1, h.here r v h2⟩
  · exact h.elim
def eK (d : D) : EF := fun _ M => .ok d M
theorem d_const {v : V} {d : D} (h : PE X a (tC v)) (hr : ∀ rho H, Rep X.K rho H d v) : DE X T W a (eK d) := pe_imp h fun sg H Q ⟨rho, env, M, r, e, h⟩ => h.here r v (hr rho H)
theorem d_int {i j pos} : DE X T W (.Constant (.int i) j pos) (eK (.int i)) := d_const pe_int fun _ _ => rfl
theorem d_bl {i j pos} : DE X T W (.Constant (.bool i) j pos) (eK (.bl i)) := d_const pe_bl fun _ _ => rfl
theorem d_non {j pos} : DE X T W (.Constant .none j pos) (eK .non) := d_const pe_non fun _ _ => rfl
theorem d_str {i j pos} : DE X T W (.Constant (.str i) j pos) (eK (.str i)) := d_const pe_str fun _ _ => rfl

/-! ### two-place operations -/
def eBin (g : D → D → Mem → R D) (fa fb : EF) : EF := fun env M => (fa env M).bind fun x M1 => (fb env M1).bind fun y M2 => g x y M2
/-- what an operation on values does, by trees -/
def rOp (G : Gam) (g : D → D → Mem → R D) : R2 := fun x y H Q => ∃ W rho M d1 d2, RelH G rho M H ∧ Rep G.K rho H d1 x ∧ Rep G.K rho H d2 y ∧ Fin G W rho H (g d1 d2 M) fun d rho' _ H' => ∀ v, Rep G.K rho' H' d v → Q v H'
theorem eBin_use {g : D → D → Mem → R D} {sg : L2.St} {H : Hp} {Q : VK} (h : dE G W (eBin g fa fb) sg H Q) : dE G W fa sg H fun x H1 => dE G W fb sg H1 fun y H2 => rOp G g x y H2 Q := by
  obtain ⟨rho, env, M, r, e, h⟩ := h
  refine ⟨rho, env, M, r, e, Fin.mono (Fin.bind h) fun d1 r1 M1 H1 p1 q1 h1 x rx => ?_⟩
  refine ⟨r1, env, M1, q1, e.post r p1, Fin.mono (Fin.bind h1) fun d2 r2 M2 H2 p2 q2 h2 y ry => ?_⟩
  exact ⟨_, r2, M2, d1, d2, q2, q1.rep p2 rx, ry, h2⟩
abbrev OpD (X : Cx) (T : List (Addr × Str)) (f : Value → Value → Sem Value) (g : D → D → Mem → R D) : Prop := OpR X f (rOp (gm X T) g)
theorem op_imp {f : Value → Value → Sem Value} {r r' : R2} (h : OpR X f r) (i : ∀ x y H Q, r' x y H Q → r x y H Q) : OpR X f r' := fun pins s sg H x y v u Q I rx ry q => h pins s sg H x y v u Q I rx ry (i x y H Q q)
theorem op_or {f : Value → Value → Sem Value} {r r' : R2} (h : OpR X f r) (h' : OpR X f r') : OpR X f (fun x y H Q => r x y H Q ∨ r' x y H Q) := fun pins s sg H x y v u Q I rx ry q => q.elim (h pins s sg H x y v u Q I rx ry) (h' pins s sg H x y v u Q I rx ry)
theorem d_bin {op : Operator} {g : D → D → Mem → R D} (ho : OpD X T (binaryOp op) g) (ha : DE X T W a fa) (hb : DE X T W b fb) : DE X T W (.BinOp a op b pos) (eBin g fa fb) :=
  pe_imp (pe_op ho ha hb) fun _ _ _ h => eBin_use h

def lim : Nat := 16777216
theorem lim_eq : sizeLine = lim := sizeLine_eq
theorem reps_len {K : PySem.W.Frag} {rho : List Addr} {H : Hp} : ∀ {ds : List D} {vs : List V}, Reps K rho H ds vs → vs.length = ds.length
  | [], vs, h => by rw [show vs = [] from h]; rfl
  | x :: xs, vs, h => by
    obtain ⟨v, r, rfl, _, h2⟩ := h
    rw [List.length_cons, List.length_cons, reps_len h2]
theorem reps_app {K : PySem.W.Frag} {rho : List Addr} {H : Hp} : ∀ {ds es : List D} {vs ws : List V}, Reps K rho H ds vs → Reps K rho H es ws → Reps K rho H (ds ++ es) (vs ++ ws)
  | [], es, vs, ws, h, h' => by rw [show vs = [] from h]; exact h'
  | x :: xs, es, vs, ws, h, h' => by
    obtain ⟨v, r, rfl, h1, h2⟩ := h
    exact ⟨v, r ++ ws, rfl, h1, reps_app h2 h'⟩
theorem reps_get {K : PySem.W.Frag} {rho : List Addr} {H : Hp} : ∀ {ds : List D} {vs : List V} {i : Nat} {d : D}, Reps K rho H ds vs → ds[i]? = some d → ∃ v, vs[i]? = some v ∧ Rep K rho H d v
  | [], vs, i, d, h, e => by simp at e
  | x :: xs, vs, 0, d, h, e => by
    obtain ⟨v, r, rfl, h1, h2⟩ := h
    simp at e
    subst e
    exact ⟨v, rfl, h1⟩
  | x :: xs, vs, i + 1, d, h, e => by
    obtain ⟨v, r, rfl, h1, h2⟩ := h
    obtain ⟨u, h3, h4⟩ := reps_get (i := i) h2 (by simpa using e)
    exact ⟨u, by simpa using h3, h4⟩
theorem reps_drop {K : PySem.W.Frag} {rho : List Addr} {H : Hp} : ∀ {ds : List D} {vs : List V} (i : Nat), Reps K rho H ds vs → Reps K rho H (ds.drop i) (vs.drop i)
  | ds, vs, 0, h => h
  | [], vs, i + 1, h => by rw [show vs = [] from h]; exact rfl
  | x :: xs, vs, i + 1, h => by
    obtain ⟨v, r, rfl, h1, h2⟩ := h
    exact reps_drop i h2
theorem reps_take {K : PySem.W.Frag} {rho : List Addr} {H : Hp} : ∀ {ds : List D} {vs : List V} (i : Nat), Reps K rho H ds vs → Reps K rho H (ds.take i) (vs.take i)
  | ds, vs, 0, h => rfl
  | [], vs, i + 1, h => by rw [show vs = [] from h]; exact rfl
  | x :: xs, vs, i + 1, h => by
    obtain ⟨v, r, rfl, h1, h2⟩ := h
    exact ⟨v, r.take i, rfl, h1, reps_take i h2⟩
theorem reps_set {K : PySem.W.Frag} {rho : List Addr} {H : Hp} {d : D} {v : V} (q : Rep K rho H d v) : ∀ {ds : List D} {vs : List V} (i : Nat), Reps K rho H ds vs → Reps K rho H (ds.set i d) (vs.set i v)
  | [], vs, i, h => by rw [show vs = [] from h]; exact rfl
  | x :: xs, vs, 0, h => by
    obtain ⟨u, r, rfl, h1, h2⟩ := h
    exact ⟨v, r, rfl, q, h2⟩
  | x :: xs, vs, i + 1, h => by
    obtain ⟨u, r, rfl, h1, h2⟩ := h
    exact ⟨u, r.set i v, rfl, h1, reps_set q i h2⟩
theorem reps_erase {K : PySem.W.Frag} {rho : List Addr} {H : Hp} : ∀ {ds : List D} {vs : List V} (i : Nat), Reps K rho H ds vs → Reps K rho H (ds.eraseIdx i) (vs.eraseIdx i)
  | [], vs, i, h => by rw [show vs = [] from h]; exact rfl
  | x :: xs, vs, 0, h => by
    obtain ⟨u, r, rfl, h1, h2⟩ := h
    exact h2
  | x :: xs, vs, i + 1, h => by
    obtain ⟨u, r, rfl, h1, h2⟩ := h
    exact ⟨u, r.eraseIdx i, rfl, h1, reps_erase i h2⟩
/-- a list of ours is a list -/
theorem RelH.lst {rho : List Addr} {M : Mem} {H : Hp} (r : RelH G rho M H) {i : Nat} {xs : List D} {v : V} (h : Rep G.K rho H (.obj i) v) (hm : M[i]? = some (.lst xs)) : ∃ p vs, v = .ref p ∧ rho[i]? = some p ∧ H p = some (.lst vs) ∧ Reps G.K rho H xs vs := by
  obtain ⟨p, h1, h2⟩ := h
  obtain ⟨o, h3, vs, rfl, h4⟩ := r.at h1 hm
  exact ⟨p, vs, h2, h1, h3, h4⟩

def gAdd (x y : D) (M : Mem) : R D := match x, y with
  | .int i, .int j => .ok (.int (i + j)) M
  | .tup xs, .tup ys => if xs.length + ys.length ≤ lim then .ok (.tup (xs ++ ys)) M else .bad
  | .obj i, .obj j => match M[i]?, M[j]? with
    | some (.lst xs), some (.lst ys) => if xs.length + ys.length ≤ lim then .ok (.obj M.length) (M ++ [.lst (xs ++ ys)]) else .bad
    | _, _ => .bad
  | .str x, .str y => if x.length + y.length ≤ lim then .ok (.str (x ++ y)) M else .bad
  | _, _ => .bad
theorem reps_nil {K : PySem.W.Frag} {rho : List Addr} {H : Hp} {ds : List D} {vs : List V} (h : Reps K rho H ds vs) : vs = [] ↔ ds = [] := by
  have := reps_len h
  constructor
  · intro e
    rw [e] at this
    exact List.eq_nil_of_length_eq_zero this.symm
  · intro e
    rw [e] at this
    exact List.eq_nil_of_length_eq_zero this
theorem o_add : OpD X T (binaryOp .Add) gAdd := by
  refine op_imp (op_or op_add (op_or op_catA (op_or op_cat op_add_str))) fun x y H Q ⟨W, rho, M, d1, d2, r, rx, ry, h⟩ => ?_
  unfold gAdd at h
  split at h
  · rename_i i j
    exact .inl ⟨i, j, rx, ry, h.here r _ rfl⟩
  · rename_i xs ys
    split at h
    · rename_i hc
      have rx0 := rx
      have ry0 := ry
      obtain ⟨a, vs, rfl, h1, h2⟩ := rx
      obtain ⟨b, ws, rfl, h3, h4⟩ := ry
      have e1 := reps_len h2
      have e2 := reps_len h4
      have hl : vs.length + ws.length ≤ sizeLine := by rw [lim_eq]; omega
      refine .inr (.inl ⟨a, b, vs, ws, rfl, rfl, SqT.of h1, SqT.of h3, hl, ?_, ?_, ?_⟩)
      · intro hy
        rw [(reps_nil h2).mp hy, List.nil_append] at h
        exact h.here r _ ry0
      · intro _ hy
        rw [(reps_nil h4).mp hy, List.append_nil] at h
        exact h.here r _ rx0
      · intro _ _ p hp
        exact h _ _ (Post.side hp) (r.side hp) _ ⟨p, vs ++ ws, rfl, upd_same, r.reps (Post.side hp) (reps_app h2 h4)⟩
    · exact h.elim
  · rename_i i j
    split at h
    · rename_i xs ys hx hy
      split at h
      · rename_i hc
        obtain ⟨p, vs, rfl, _, h1, h2⟩ := r.lst rx hx
        obtain ⟨q, ws, rfl, _, h3, h4⟩ := r.lst ry hy
        refine .inr (.inr (.inl ⟨p, q, vs, ws, rfl, rfl, h1, h3, by rw [lim_eq, reps_len h2, reps_len h4]; exact hc, fun l hl => ?_⟩))
        have q' : RepO X.K rho H (.lst (xs ++ ys)) (.lst (vs ++ ws)) := ⟨_, rfl, reps_app h2 h4⟩
        exact h _ _ (Post.new hl) (r.new hl q') _ ⟨l, by rw [r.len]; simp, rfl⟩
      · exact h.elim
    · exact h.elim
  · rename_i i j
    split at h
    · rename_i hc
      exact .inr (.inr (.inr ⟨i, j, rx, ry, by rw [lim_eq]; exact hc, h.here r _ rfl⟩))
    · exact h.elim
  · exact h.elim
end
end Tr

set_option Elab.async false
set_option linter.all false
set_option maxRecDepth 100000
set_option maxHeartbeats 4000000
namespace Tr
open PySem PySem.Spec PyProof.Rows L2

/-! ### statements -/
inductive Fl where
  | nx | rt (d : D) | bk | ct | ex (x : XD)
abbrev SF := DEnv → Mem → R (Fl × DEnv)
abbrev NoX : XK := fun _ _ _ => False
def Ends.of (G : Gam) (W : WX) (D' : Ends) (p : Fl × DEnv) (rho' : List Addr) (H' : Hp) : Prop := match p.1 with
  | .nx => ∀ sg, RepEnv G.K rho' H' p.2 sg → D'.nx sg H'
  | .rt d => ∀ v, Rep G.K rho' H' d v → D'.rt v H'
  | .bk => ∀ sg, RepEnv G.K rho' H' p.2 sg → D'.bk sg H'
  | .ct => ∀ sg, RepEnv G.K rho' H' p.2 sg → D'.ct sg H'
  | .ex x => ∀ sg d, RepEnv G.K rho' H' p.2 sg → RepX G.K rho' H' x d → W x.cls d sg H'
def dS (G : Gam) (W : WX) (f : SF) : TS := fun D' sg H => ∃ rho env M, RelH G rho M H ∧ RepEnv G.K rho H env sg ∧ Fin G NoX rho H (f env M) fun p rho' _ H' => Ends.of G W D' p rho' H'
abbrev DS (X : Cx) (T : List (Addr × Str)) (W : WX) (st : Stmt) (f : SF) : Prop := PS X st (dS (gm X T) W f)
abbrev DSs (X : Cx) (T : List (Addr × Str)) (W : WX) (st : List Stmt) (f : SF) : Prop := PSs X st (dS (gm X T) W f)
theorem ps_imp {X : Cx} {e : Stmt} {t t' : TS} (h : PS X e t) (i : ∀ D' sg H, t' D' sg H → t D' sg H) : PS X e t' := ⟨fun pins s sg H D' I q => h.run pins s sg H D' I (i D' sg H q)⟩
theorem pss_imp {X : Cx} {e : List Stmt} {t t' : TS} (h : PSs X e t) (i : ∀ D' sg H, t' D' sg H → t D' sg H) : PSs X e t' := ⟨fun pins s sg H D' I q => h.run pins s sg H D' I (i D' sg H q)⟩
/-- an expression's end within a statement -/
def R.st {α : Type} (r : R α) (env : DEnv) (f : α → Mem → R (Fl × DEnv)) : R (Fl × DEnv) := match r with
  | .ok a M => f a M
  | .exc x M => .ok (.ex x, env) M
  | .bad => .bad
@[simp] theorem R.st_ok {α : Type} (a : α) (M : Mem) (env : DEnv) (f : α → Mem → R (Fl × DEnv)) : (R.ok a M).st env f = f a M := rfl
@[simp] theorem R.st_exc {α : Type} (x : XD) (M : Mem) (env : DEnv) (f : α → Mem → R (Fl × DEnv)) : (R.exc x M : R α).st env f = .ok (.ex x, env) M := rfl
@[simp] theorem R.st_bad {α : Type} (env : DEnv) (f : α → Mem → R (Fl × DEnv)) : (R.bad : R α).st env f = .bad := rfl
section
variable {G : Gam} {W : WX} {rho rho1 : List Addr} {H H1 : Hp} {M : Mem} {α β : Type}
theorem Fin.st {D' : Ends} {r : R α} {env : DEnv} {sg : L2.St} {f : α → Mem → R (Fl × DEnv)} (hr : RelH G rho M H) (e : RepEnv G.K rho H env sg) (h : Fin G NoX rho H (r.st env f) fun p rho' _ H' => Ends.of G W D' p rho' H') :
    Fin G (fun c d H' => W c d sg H') rho H r fun a rho1 M1 H1 => Fin G NoX rho1 H1 (f a M1) fun p rho' _ H' => Ends.of G W D' p rho' H' := by
  cases r with
  | ok a M1 => exact fun r1 H1 p1 _ => Fin.post (show Fin G NoX rho H (f a M1) _ from h) p1
  | exc x M1 => exact fun r1 H1 d p1 q1 z => (h r1 H1 p1 q1) sg d (e.post hr p1) z
  | bad => exact h
end
section
variable {X : Cx} {T : List (Addr × Str)} {W : WX} {a b c : Expr} {fa fb fc : EF} {pos : Pos} {es : List Expr} {st : Stmt} {sts : List Stmt} {f g : SF}
def sPass : SF := fun env M => .ok (.nx, env) M
def sSeq (f g : SF) : SF := fun env M => (f env M).bind fun p M1 => match p.1 with
  | .nx => g p.2 M1
  | _ => .ok p M1
theorem d_nil : DSs X T W [] sPass := pss_imp pss_nil fun D' sg H ⟨rho, env, M, r, e, h⟩ => h.here r sg e
theorem d_pass : DS X T W (.Pass pos) sPass := ps_imp ps_pass fun D' sg H ⟨rho, env, M, r, e, h⟩ => h.here r sg e
theorem d_seq (h1 : DS X T W st f) (h2 : DSs X T W sts g) : DSs X T W (st :: sts) (sSeq f g) :=
  pss_imp (pss_cons h1 h2) fun D' sg H ⟨rho, env, M, r, e, h⟩ => ⟨rho, env, M, r, e, Fin.mono (Fin.bind h) fun p r1 M1 H1 p1 q1 h1 => by
    obtain ⟨fl, env1⟩ := p
    cases fl with
    | nx => exact fun sg1 e1 => ⟨r1, env1, M1, q1, e1, h1⟩
    | rt d => exact h1.here q1
    | bk => exact h1.here q1
    | ct => exact h1.here q1
    | ex x => exact h1.here q1⟩
theorem d_one (h1 : DS X T W st f) : DSs X T W [st] f := pss_one h1
def sNever : SF := fun _ _ => .bad
theorem d_never : DS X T W st sNever := ps_imp ps_never fun D' sg H ⟨rho, env, M, r, e, h⟩ => h
theorem d_nevers : DSs X T W sts sNever := pss_imp pss_never fun D' sg H ⟨rho, env, M, r, e, h⟩ => h
def sExpr (fa : EF) : SF := fun env M => (fa env M).st env fun _ M1 => .ok (.nx, env) M1
theorem d_expr (h : PS X (.Expr a pos) (tDrop (dE (gm X T) W fa))) : DS X T W (.Expr a pos) (sExpr fa) := ps_imp h fun D' sg H ⟨rho, env, M, r, e, h⟩ =>
  ⟨rho, env, M, r, e, Fin.mono (Fin.st r e h) fun d r1 M1 H1 p1 q1 h1 v rv => h1.here q1 sg (e.post r p1)⟩
def sRet (fa : EF) : SF := fun env M => (fa env M).st env fun d M1 => .ok (.rt d, env) M1
theorem d_ret (ha : DE X T W a fa) : DS X T W (.Return (some a) pos) (sRet fa) := ps_imp (ps_ret ha) fun D' sg H ⟨rho, env, M, r, e, h⟩ =>
  ⟨rho, env, M, r, e, Fin.mono (Fin.st r e h) fun d r1 M1 H1 p1 q1 h1 v rv => h1.here q1 v rv⟩
def sRetN : SF := fun env M => .ok (.rt .non, env) M
theorem d_retN : DS X T W (.Return none pos) sRetN := ps_imp ps_retN fun D' sg H ⟨rho, env, M, r, e, h⟩ => h.here r .non rfl
def sIf (ft : TF) (f g : SF) : SF := fun env M => (ft env M).st env fun b M1 => if b = true then f env M1 else g env M1
theorem d_if {ft : TF} {body orelse : List Stmt} (hc : DT X T W c ft) (h1 : DSs X T W body f) (h2 : DSs X T W orelse g) : DS X T W (.If c body orelse pos) (sIf ft f g) :=
  ps_imp (ps_if hc h1 h2) fun D' sg H ⟨rho, env, M, r, e, h⟩ => ⟨rho, env, M, r, e, Fin.mono (Fin.st r e h) fun d r1 M1 H1 p1 q1 h1 => by
    cases d with
    | true =>
      rw [if_pos rfl]
      rw [if_pos rfl] at h1
      exact ⟨r1, env, M1, q1, e.post r p1, h1⟩
    | false =>
      rw [if_neg (by decide)]
      rw [if_neg (by decide)] at h1
      exact ⟨r1, env, M1, q1, e.post r p1, h1⟩⟩
theorem repEnv_set {K : PySem.W.Frag} {rho : List Addr} {H : Hp} {env : DEnv} {sg : L2.St} {d : D} {v : V} (e : RepEnv K rho H env sg) (i : Nat) (r : Rep K rho H d v) : RepEnv K rho H (env.set i (some d)) (sg.set i (some v)) := by
  refine ⟨by simp [e.1], fun j d' h => ?_⟩
  by_cases hj : i = j
  · subst hj
    have hl : i < env.length := by
      have := (List.getElem?_eq_some_iff.mp h).1
      simpa using this
    rw [List.getElem?_set_self hl] at h
    cases h
    exact ⟨v, by rw [List.getElem?_set_self (by rw [← e.1]; exact hl)], r⟩
  · rw [List.getElem?_set_ne hj] at h
    rw [List.getElem?_set_ne hj]
    exact e.2 j d' h
/-! ### targets: they raise nothing -/
def R.no {α : Type} (r : R α) : R α := match r with
  | .exc _ _ => .bad
  | r => r
@[simp] theorem R.no_ok {α : Type} (a : α) (M : Mem) : (R.ok a M).no = .ok a M := rfl
@[simp] theorem R.no_bad {α : Type} : (R.bad : R α).no = .bad := rfl
theorem Fin.no {α : Type} {G : Gam} {W W' : XK} {rho : List Addr} {H : Hp} {r : R α} {k : α → List Addr → Mem → Hp → Prop} (h : Fin G W rho H r.no k) : Fin G W' rho H r k := by
  cases r with
  | ok a M => exact h
  | exc x M => exact h.elim
  | bad => exact h
theorem Fin.any {α : Type} {G : Gam} {W' : XK} {rho : List Addr} {H : Hp} {r : R α} {k : α → List Addr → Mem → Hp → Prop} (h : Fin G NoX rho H r k) : Fin G W' rho H r k := by
  cases r with
  | ok a M => exact h
  | exc x M => exact fun r1 H1 d p q z => (h r1 H1 d p q z).elim
  | bad => exact h
abbrev GF := D → DEnv → Mem → R DEnv
/-- but for the slots vs all stays -/
def Out (vs : List Nat) (sg sg' : L2.St) : Prop := sg'.length = sg.length ∧ ∀ j, j ∉ vs → sg'[j]? = sg[j]?
theorem Out.refl (vs : List Nat) (sg : L2.St) : Out vs sg sg := ⟨rfl, fun _ _ => rfl⟩
theorem Out.trans {vs ws : List Nat} {a b c : L2.St} (x : Out vs a b) (y : Out ws b c) : Out (vs ++ ws) a c := ⟨y.1.trans x.1, fun j h => (y.2 j fun z => h (List.mem_append_right _ z)).trans (x.2 j fun z => h (List.mem_append_left _ z))⟩
theorem Out.set (i : Nat) (sg : L2.St) (v : Option V) : Out [i] sg (sg.set i v) := ⟨by simp, fun j h => by
  rw [List.getElem?_set_ne]
  intro e
  exact h (by simp [e])⟩
def dG (G : Gam) (vs : List Nat) (f : GF) : TG := fun v sg H Q => ∃ rho env M d, RelH G rho M H ∧ RepEnv G.K rho H env sg ∧ Rep G.K rho H d v ∧ Fin G NoX rho H (f d env M) fun env' rho' _ H' => ∀ sg', RepEnv G.K rho' H' env' sg' → Out vs sg sg' → Q sg' H'
abbrev DG (X : Cx) (T : List (Addr × Str)) (vs : List Nat) (e : Expr) (f : GF) : Prop := PG X e (dG (gm X T) vs f)
theorem pg_imp {X : Cx} {e : Expr} {t t' : TG} (h : PG X e t) (i : ∀ v sg H Q, t' v sg H Q → t v sg H Q) : PG X e t' := ⟨fun pins s sg H v u Q I r q => h.run pins s sg H v u Q I r (i v sg H Q q)⟩
def gtName (i : Nat) : GF := fun d env M => .ok (env.set i (some d)) M
theorem d_gname {i : Nat} (h : PG X a (gName i)) : DG X T [i] a (gtName i) := pg_imp h fun v sg H Q ⟨rho, env, M, d, r, e, rv, h⟩ => h.here r _ (repEnv_set e i rv) (Out.set i sg _)
abbrev GsF := List D → DEnv → Mem → R DEnv
def dGs (G : Gam) (ws : List Nat) (f : GsF) : TGs := fun vs sg H Q => ∃ rho env M ds, RelH G rho M H ∧ RepEnv G.K rho H env sg ∧ Reps G.K rho H ds vs ∧ Fin G NoX rho H (f ds env M) fun env' rho' _ H' => ∀ sg', RepEnv G.K rho' H' env' sg' → Out ws sg sg' → Q sg' H'
abbrev DGs (X : Cx) (T : List (Addr × Str)) (vs : List Nat) (es : List Expr) (f : GsF) : Prop := PGs X es (dGs (gm X T) vs f)
def sAsg (fa : EF) (ft : GF) : SF := fun env M => (fa env M).st env fun d M1 => (ft d env M1).no.bind fun env' M2 => .ok (.nx, env') M2
theorem d_asg {ft : GF} {tg : Expr} {vs : List Nat} (ha : DE X T W a fa) (hg : DG X T vs tg ft) (hs : swapsWithSole [tg] a pos.line X.env = pure false := by rfl) (hw : swappedStores [tg] a X.env = pure none := by rfl)
    (h1 : (assignEach [tg] X.env).map (·.2) = [assign tg X.env] := by rfl) : DS X T W (.Assign [tg] a pos) (sAsg fa ft) := ps_imp (ps_asg ha hg hs hw h1) fun D' sg H ⟨rho, env, M, r, e, h⟩ =>
  ⟨rho, env, M, r, e, Fin.mono (Fin.st r e h) fun d r1 M1 H1 p1 q1 h1 v rv => ⟨r1, env, M1, d, q1, e.post r p1, rv, Fin.mono (Fin.no (Fin.bind h1)) fun env' r2 M2 H2 p2 q2 h2 sg' e' _ => h2.here q2 sg' e'⟩⟩
def sSet (i : Nat) (fa : EF) : SF := fun env M => (fa env M).st env fun d M1 => .ok (.nx, env.set i (some d)) M1
theorem d_set {i : Nat} {tg : Expr} (h : PS X (.Assign [tg] a pos) (tAsg (dE (gm X T) W fa) (gName i))) : DS X T W (.Assign [tg] a pos) (sSet i fa) := ps_imp h fun D' sg H ⟨rho, env, M, r, e, h⟩ =>
  ⟨rho, env, M, r, e, Fin.mono (Fin.st r e h) fun d r1 M1 H1 p1 q1 h1 v rv => h1.here q1 _ (repEnv_set (e.post r p1) i rv)⟩
end

/-! ### defs -/
def startD (n : Nat) (ds : List D) : DEnv := ds.map some ++ List.replicate (n - ds.length) none
theorem startD_rep {K : PySem.W.Frag} {rho : List Addr} {H : Hp} {N : List Str} {ds : List D} {vs : List V} (h : Reps K rho H ds vs) : RepEnv K rho H (startD N.length ds) (L2.start N vs) := by
  have hl := reps_len h
  refine ⟨by simp [startD, L2.start, hl], fun i d e => ?_⟩
  unfold startD at e
  unfold L2.start
  by_cases hi : i < ds.length
  · rw [List.getElem?_append_left (by simpa using hi), List.getElem?_map] at e
    rw [List.getElem?_append_left (by simpa [hl] using hi), List.getElem?_map]
    cases q : ds[i]? with
    | none => rw [q] at e; cases e
    | some x =>
      rw [q] at e
      cases e
      obtain ⟨v, h1, h2⟩ := reps_get h q
      exact ⟨v, by rw [h1]; rfl, h2⟩
  · rw [List.getElem?_append_right (by simpa using hi), List.getElem?_replicate] at e
    split at e <;> cases e
abbrev FF := List D → Mem → R D
def runB (n : Nat) (f : SF) : FF := fun ds M => match f (startD n ds) M with
  | .ok (.nx, _) M1 => .ok .non M1
  | .ok (.rt d, _) M1 => .ok d M1
  | .ok (.ex x, _) M1 => .exc x M1
  | _ => .bad
/-- what a def does -/
structure FnG (P : Program) (w : World) (K : PySem.W.Frag) (T : List (Addr × Str)) (mg : Str → Option Value) (base : Heap) (k : Nat) (f : Addr) (fd : FuncData) (ps : List Str) (F : FF) : Prop where
  run : ∀ (A : Around) (outer : List Env) (s : Shared) (H : Hp) (args : Args) (us : List Value) (vs : List V) (ds : List D) (rho : List Addr) (M : Mem) (Q : VK) (E : XK),
    Room k A → A.guards = some [] → Env0 P w K mg base A outer s H → BindsTo s fd args (ps.zip us) → Vals vs us → RelH ⟨K, T⟩ rho M H → Reps K rho H ds vs → ds.length = ps.length →
    Fin ⟨K, T⟩ E rho H (F ds M) (fun d rho' _ H' => ∀ v, Rep K rho' H' d v → Q v H') → codeAny (model P w) A (.call (.ref f) args) (CR (CX P w) outer P w H s Q E) s
theorem FnG.mono {P : Program} {w : World} {K : PySem.W.Frag} {T : List (Addr × Str)} {mg : Str → Option Value} {base : Heap} {j k : Nat} {f : Addr} {fd : FuncData} {ps : List Str} {F : FF} (h : FnG P w K T mg base j f fd ps F) (l : j ≤ k) : FnG P w K T mg base k f fd ps F :=
  ⟨fun A outer s H args us vs ds rho M Q E hr => h.run A outer s H args us vs ds rho M Q E (hr.mono l)⟩
/-- the judgement's context within a def's body -/
structure BodyOk (X : Cx) (E : XK) (k : Nat) : Prop where
  calm : X.calm = true
  room : Room k X.A
  guards : X.A.guards = some []
  takes : Takes X (fun c d _ H => E c d H)
  own : PassesOwn (model X.prog X.w) X.A X.env X.xe
theorem fn_ofG {P : Program} {w : World} {K : PySem.W.Frag} {T : List (Addr × Str)} {mg : Str → Option Value} {base : Heap} {k : Nat} {f : Addr} {x qual : Str} {params : Arguments} {body : List Stmt} {scope : Scope} {dvs : List V} {kws : List (Str × V)} {fd : FuncData} {N ps : List Str} {fb : SF}
    (F : FunD K x qual params body scope dvs kws f fd) (S : FnScope N ps scope)
    (hbody : ∀ (cdv : Value) (A : Around) (outer : List Env) (s : Shared) (H : Hp) (E : XK), BodyOk (cxOf (CX P w) P w K mg base N qual scope f cdv A outer s H E) E k →
      DSs (cxOf (CX P w) P w K mg base N qual scope f cdv A outer s H E) T (fun c d _ H => E c d H) body fb) :
    FnG P w K T mg base (k + 1) f fd ps (runB N.length fb) := by
  obtain ⟨oc, od, dV, kV, doc, pm, an, cdv, ct, osl, rfl, lk, hcd, _, _⟩ := F.ex
  refine ⟨fun A outer s H args us vs ds rho M Q E hr hg e0 hb r rel reps hl hq => ?_⟩
  have hlv : vs.length = ps.length := (reps_len reps).trans hl
  have KX : K.In s.heap := e0.mod.kin.keeps fun b o e => (e0.bs b o e).1
  have lim := e0.mod.nolimit.keeps fun b o e => (e0.bs b o e).1
  have hkind : ∀ y ∈ ps.zip us, scope.names.lookup y.1 = some .local ∨ (scope.names.lookup y.1 = some .cell ∧ ((cellsFrom (s.heap.objs.size + 1) scope.names []).lookup y.1).isSome = true) := by
    rintro ⟨n, v⟩ hy
    rcases S.par n (List.of_mem_zip hy).1 with q | q
    · exact .inl q
    · exact .inr ⟨q, PySem.W.cellsFrom_some _ _ _ (.inl q)⟩
  refine codeAny_call_function hr.depth (KX _ _ lk) rfl S.co S.gen rfl (PySem.W.codeRec_of KX hcd) (hb _ _ _ _ ?_)
  refine wpAny_newFunctionEnv_cells S.kind hkind fun env he s1 x => ?_
  subst he
  refine ⟨lim.keeps x.toInCall.keep, codeAny_func ?_⟩
  have ok : BodyOk (cxOf (CX P w) P w K mg base N qual scope f cdv A outer s H E) E k :=
    ⟨rfl, hr.deeper _, hg, takes_of rfl rfl rfl rfl, passes_of rfl⟩
  have I : Inv (cxOf (CX P w) P w K mg base N qual scope f cdv A outer s H E) [] (L2.start N vs) H s1 := inv_start S hr.hd e0 hlv r x
  have go : dS ⟨K, T⟩ (fun c d _ H => E c d H) fb { nx := fun _ H' => Q .non H', rt := Q } (L2.start N vs) H := by
    refine ⟨rho, startD N.length ds, M, rel, startD_rep reps, ?_⟩
    unfold runB at hq
    cases e : fb (startD N.length ds) M with
    | bad => rw [e] at hq; exact hq.elim
    | exc x M1 =>
      rw [e] at hq
      exact (show False from hq).elim
    | ok p M1 =>
      rw [e] at hq
      obtain ⟨fl, env1⟩ := p
      intro r1 H1 p1 q1
      cases fl with
      | nx => exact fun sg e1 => hq r1 H1 p1 q1 .non rfl
      | rt d => exact fun v rv => hq r1 H1 p1 q1 v rv
      | bk => exact (show False from hq).elim
      | ct => exact (show False from hq).elim
      | ex x => exact fun sg d e1 rx => hq r1 H1 d p1 q1 rx
  refine wpAny_mono ((hbody cdv A outer s H E ok).run [] s1 (L2.start N vs) H _ I go) (fun fl s' hs => ?_) fun e s' hs => hs
  have fin : ∀ {sg' : L2.St} {H' : Hp} {v : V} {u : Value}, Inv (cxOf (CX P w) P w K mg base N qual scope f cdv A outer s H E) [] sg' H' s' → RelV v u → Q v H' → CE outer P w H s Q u s' :=
    fun {sg' H' v u} J rv q => ⟨v, H', J.os, J.bare, J.base, J.hok, rv, q⟩
  cases fl with
  | ret u =>
    obtain ⟨v, sg', H', J, rv, q⟩ := hs
    exact fin J rv q
  | next =>
    obtain ⟨sg', H', J, q⟩ := hs
    exact fin (v := V.non) (u := Value.none) J rfl q
  | brk =>
    obtain ⟨_, _, _, q⟩ := hs
    exact q.elim
  | cont =>
    obtain ⟨_, _, _, q⟩ := hs
    exact q.elim
end Tr

set_option Elab.async false
set_option linter.all false
set_option maxRecDepth 100000
set_option maxHeartbeats 4000000
namespace Tr
open PySem PySem.Spec PyProof.Rows L2

/-! ### arguments -/
def aNil : AF := fun _ M => .ok [] M
def aCons (fa : EF) (fr : AF) : AF := fun env M => (fa env M).bind fun x M1 => (fr env M1).bind fun xs M2 => .ok (x :: xs) M2
section
variable {X : Cx} {T : List (Addr × Str)} {W : WX} {a b c e : Expr} {fa fb fc : EF} {pos : Pos} {es : List Expr} {fr fk : AF}
theorem d_anil : DA X T W [] aNil := pa_imp pa_nil fun sg H Q ⟨rho, env, M, r, e, h⟩ => h.here r [] rfl
theorem aCons_use {sg : L2.St} {H : Hp} {Q : List V → Hp → Prop} {G : Gam} (h : dA G W (aCons fa fr) sg H Q) : tCons (dE G W fa) (dA G W fr) sg H Q := by
  obtain ⟨rho, env, M, r, e, h⟩ := h
  refine ⟨rho, env, M, r, e, Fin.mono (Fin.bind h) fun d1 r1 M1 H1 p1 q1 h1 x rx => ?_⟩
  refine ⟨r1, env, M1, q1, e.post r p1, Fin.mono (Fin.bind h1) fun d2 r2 M2 H2 p2 q2 h2 y ry => ?_⟩
  exact h2.here q2 _ ⟨x, y, rfl, q1.rep p2 rx, ry⟩
theorem d_acons (ha : DE X T W a fa) (hr : DA X T W es fr) (hs : starEach (a :: es) X.env = (false, eval a X.env) :: starEach es X.env := by rfl) : DA X T W (a :: es) (aCons fa fr) :=
  pa_imp (pa_cons ha hr hs) fun _ _ _ h => aCons_use h
abbrev DK (X : Cx) (T : List (Addr × Str)) (W : WX) (kws : List Keyword) (f : AF) : Prop := PK X kws (dA (gm X T) W f)
theorem pk_imp {X : Cx} {e : List Keyword} {t t' : TA} (h : PK X e t) (i : ∀ sg H Q, t' sg H Q → t sg H Q) : PK X e t' := ⟨fun pos pins s sg H Q I q => h.run pos pins s sg H Q I (i sg H Q q)⟩
theorem d_knil : DK X T W [] aNil := pk_imp (pk_nil) fun sg H Q ⟨rho, env, M, r, e, h⟩ => h.here r [] rfl
theorem d_kcons {nm kpos} {kws : List Keyword} (ha : DE X T W a fa) (hr : DK X T W kws fr) : DK X T W (⟨nm, a, kpos⟩ :: kws) (aCons fa fr) := pk_imp (pk_cons ha hr) fun _ _ _ h => aCons_use h

/-! ### displays -/
def eTup (fr : AF) : EF := fun env M => (fr env M).bind fun ds M1 => if ds.length ≤ lim then .ok (.tup ds) M1 else .bad
theorem d_tup {x1} (h : DA X T W es fr) : DE X T W (.Tuple es x1 pos) (eTup fr) := pe_imp (pe_tup h) fun sg H Q ⟨rho, env, M, r, e, h⟩ =>
  ⟨rho, env, M, r, e, Fin.mono (Fin.bind h) fun ds r1 M1 H1 p1 q1 h1 vs rv => by
    split at h1
    · rename_i hl
      refine ⟨by rw [lim_eq, reps_len rv]; exact hl, fun p hp => ?_⟩
      exact h1 r1 _ (Post.side hp) (q1.side hp) _ ⟨p, vs, rfl, upd_same, q1.reps (Post.side hp) rv⟩
    · exact h1.elim⟩
def eLst (fr : AF) : EF := fun env M => (fr env M).bind fun ds M1 => if ds.length ≤ lim then .ok (.obj M1.length) (M1 ++ [.lst ds]) else .bad
theorem d_lst (h : DA X T W es fr) : DE X T W (.List es pos) (eLst fr) := pe_imp (pe_lst h) fun sg H Q ⟨rho, env, M, r, e, h⟩ =>
  ⟨rho, env, M, r, e, Fin.mono (Fin.bind h) fun ds r1 M1 H1 p1 q1 h1 vs rv => by
    split at h1
    · rename_i hl
      refine ⟨by rw [lim_eq, reps_len rv]; exact hl, fun p hp => ?_⟩
      have q' : RepO X.K r1 H1 (.lst ds) (.lst vs) := ⟨vs, rfl, rv⟩
      exact h1 _ _ (Post.new hp) (q1.new hp q') _ ⟨p, by rw [q1.len]; simp, rfl⟩
    · exact h1.elim⟩

/-! ### calls of the text's own defs -/
/-- where an argument comes from: a place, a keyword, a default -/
inductive Ix where
  | p (i : Nat) | k (i : Nat) | d (i : Nat)
def Ix.at {α : Type} (us ws its : List α) : Ix → Option α
  | .p i => us[i]?
  | .k i => ws[i]?
  | .d i => its[i]?
def arr {α : Type} (us ws its : List α) : List Ix → Option (List α)
  | [] => some []
  | x :: xs => match x.at us ws its, arr us ws its xs with
    | some a, some r => some (a :: r)
    | _, _ => none
theorem arr_rel {α β : Type} {us ws its : List α} {us' ws' its' : List β} {F : α → β → Prop} {Fs : List α → List β → Prop} (h1 : ∀ (i : Nat) a, us[i]? = some a → ∃ b, us'[i]? = some b ∧ F a b) (h2 : ∀ (i : Nat) a, ws[i]? = some a → ∃ b, ws'[i]? = some b ∧ F a b)
    (h3 : ∀ (i : Nat) a, its[i]? = some a → ∃ b, its'[i]? = some b ∧ F a b) (n : Fs [] []) (c : ∀ a b l m, F a b → Fs l m → Fs (a :: l) (b :: m)) : ∀ (plan : List Ix) (l : List α), arr us ws its plan = some l → ∃ m, arr us' ws' its' plan = some m ∧ Fs l m
  | [], l, e => by
    cases e
    exact ⟨[], rfl, n⟩
  | x :: xs, l, e => by
    unfold arr at e
    split at e
    · rename_i a r ea er
      cases e
      obtain ⟨m, em, hm⟩ := arr_rel h1 h2 h3 n c xs r er
      have : ∃ b, x.at us' ws' its' = some b ∧ F a b := by
        cases x with
        | p i => exact h1 i a ea
        | k i => exact h2 i a ea
        | d i => exact h3 i a ea
      obtain ⟨b, eb, hb⟩ := this
      refine ⟨b :: m, ?_, c _ _ _ _ hb hm⟩
      unfold arr
      rw [eb, em]
    · cases e
/-- how a call binds: n places, keywords ks; dV the defaults as values -/
structure BK (K : PySem.W.Frag) (fd : FuncData) (ps : List Str) (n : Nat) (ks : List Str) (plan : List Ix) (dvs : List V) : Prop where
  ex : ∃ its : List Value, Vals dvs its ∧ ∀ (s : Shared) (us ws zs : List Value), K.In s.heap → us.length = n → ws.length = ks.length → arr us ws its plan = some zs → BindsTo s fd ⟨us, ks.zip ws⟩ (ps.zip zs)
theorem bk_no {K : PySem.W.Frag} {x qual : Str} {params : Arguments} {body : List Stmt} {scope : Scope} {f : Addr} {fd : FuncData} {ps ks : List Str} {n : Nat} {plan : List Ix} {kws : List (Str × V)} (F : FunD K x qual params body scope [] kws f fd)
    (h : ∀ (kV doc pm : Value) (an : Option Addr) (cdv ct : Value) (us ws zs : List Value), us.length = n → ws.length = ks.length → arr us ws [] plan = some zs → bindArgs (PySem.W.fnOf x qual params body scope .none kV doc pm an cdv ct) ⟨us, ks.zip ws⟩ = pure (ps.zip zs)) : BK K fd ps n ks plan [] := by
  obtain ⟨oc, od, dV, kV, doc, pm, an, cdv, ct, osl, rfl, lk, hcd, hD, hK⟩ := F.ex
  rcases hD with ⟨_, rfl⟩ | ⟨e, _⟩
  · exact ⟨[], .nil, fun s us ws zs X l1 l2 e => .of_eq (h kV doc pm an cdv ct us ws zs l1 l2 e)⟩
  · exact absurd rfl e
theorem bk_dfl {K : PySem.W.Frag} {x qual : Str} {params : Arguments} {body : List Stmt} {scope : Scope} {f : Addr} {fd : FuncData} {ps ks : List Str} {n : Nat} {plan : List Ix} {dvs : List V} {kws : List (Str × V)} (F : FunD K x qual params body scope dvs kws f fd) (hd : dvs ≠ [])
    (h : ∀ (T : Addr) (kV doc pm : Value) (an : Option Addr) (cdv ct : Value) (us ws its zs : List Value), us.length = n → ws.length = ks.length → its.length = dvs.length → arr us ws its plan = some zs →
      ∃ k, bindArgs (PySem.W.fnOf x qual params body scope (.ref T) kV doc pm an cdv ct) ⟨us, ks.zip ws⟩ = seqItems? (.ref T) >>= k ∧ k (some its.toArray) = pure (ps.zip zs)) : BK K fd ps n ks plan dvs := by
  obtain ⟨oc, od, dV, kV, doc, pm, an, cdv, ct, osl, rfl, lk, hcd, hD, hK⟩ := F.ex
  rcases hD with ⟨e, _⟩ | ⟨_, T, o, its, m, rfl, lT, oT, rT⟩
  · exact absurd e hd
  · refine ⟨its, rT, fun s us ws zs X l1 l2 e => ?_⟩
    obtain ⟨k, e1, e2⟩ := h T kV doc pm an cdv ct us ws its zs l1 l2 rT.length.symm e
    refine BindsTo.of_looks fun M => ?_
    rw [e1]
    exact looks_items X lT oT (.of_pure e2)
/-- a default as a tree -/
def RepC (K : PySem.W.Frag) (d : D) (v : V) : Prop := ∀ rho H, Rep K rho H d v
def RepCs (K : PySem.W.Frag) (ds : List D) (vs : List V) : Prop := ∀ rho H, Reps K rho H ds vs
def callD (n m : Nat) (plan : List Ix) (dfl : List D) (F : FF) (xs ks : List D) (M : Mem) : R D := if xs.length = n ∧ ks.length = m then (match arr xs ks dfl plan with
  | some zs => if zs.length = plan.length then F zs M else .bad
  | none => .bad) else .bad
theorem vals_get {vs : List V} {us : List Value} (r : Vals vs us) (i : Nat) (a : V) (h : vs[i]? = some a) : ∃ b, us[i]? = some b ∧ RelV a b := r.get h
theorem run_G {k n : Nat} {f : Addr} {fd : FuncData} {ps ks : List Str} {Fn : FF} {plan : List Ix} {dfl : List D} {dvs : List V} {pins : List (Addr × Obj)} {sg : L2.St} {H : Hp} {s : Shared} {Q : VK} {us ws : List Value} {vs zs : List V} {xs kd : List D} {rho : List Addr} {M : Mem}
    (F : FnG X.prog X.w X.K T X.mg X.base k f fd ps Fn) (hr : Room k X.A) (hgd : X.A.guards = some []) (tk : Takes X W) (hb : BK X.K fd ps n ks plan dvs) (hd : RepCs X.K dfl dvs) (hpl : plan.length = ps.length)
    (I : Inv X pins sg H s) (rv : Vals vs us) (rz : Vals zs ws) (rel : RelH (gm X T) rho M H) (r1 : Reps X.K rho H xs vs) (r2 : Reps X.K rho H kd zs)
    (h : Fin (gm X T) (fun c d H' => W c d sg H') rho H (callD n ks.length plan dfl Fn xs kd M) fun d rho' _ H' => ∀ v, Rep X.K rho' H' d v → Q v H') :
    wpAny (model X.prog X.w) X.A (call (.ref f) us (ks.zip ws)) (EP X pins sg Q) X.xe s := by
  unfold callD at h
  split at h
  · rename_i hc
    split at h
    · rename_i zs' hz
      split at h
      · rename_i hl
        obtain ⟨its, rI, hbind⟩ := hb.ex
        have g1 : ∃ vz, arr vs zs dvs plan = some vz ∧ Reps X.K rho H zs' vz := arr_rel (fun i a h => reps_get r1 h) (fun i a h => reps_get r2 h) (fun i a h => reps_get (hd rho H) h) rfl (fun a b l m h h' => ⟨b, m, rfl, h, h'⟩) plan zs' hz
        obtain ⟨vz, e1, q1⟩ := g1
        have g2 : ∃ uz, arr us ws its plan = some uz ∧ Vals vz uz := arr_rel (vals_get rv) (vals_get rz) (vals_get rI) .nil (fun a b l m h h' => .cons h h') plan vz e1
        obtain ⟨uz, e2, q2⟩ := g2
        have l1 : us.length = n := rv.length.symm.trans ((reps_len r1).trans hc.1)
        have l2 : ws.length = ks.length := rz.length.symm.trans ((reps_len r2).trans hc.2)
        refine wpAny_call (codeAny_mono (F.run X.A X.stack s H ⟨us, ks.zip ws⟩ uz vz zs' rho M Q _ hr hgd I.env0 (hbind s us ws uz I.kIn l1 l2 e2) q2 rel q1 (hl.trans hpl) h) fun r s' hq => ?_)
        cases r with
        | error e => exact tk e s' (XE.of_call I (fun cls d H' h => h) hq)
        | ok fl =>
          cases fl with
          | ret u => exact I.after hq
          | next => exact False.elim hq
          | brk => exact False.elim hq
          | cont => exact False.elim hq
      · exact h.elim
    · exact h.elim
  · exact h.elim
def eCall (n m : Nat) (plan : List Ix) (dfl : List D) (Fn : FF) (fr fk : AF) : EF := fun env M => (fr env M).bind fun xs M1 => (fk env M1).bind fun ks M2 => callD n m plan dfl Fn xs ks M2
theorem args_use {sg : L2.St} {H : Hp} {Q : VK} {g : List D → Mem → R D} {rho : List Addr} {env : DEnv} {M : Mem} (r : RelH (gm X T) rho M H) (e : RepEnv (gm X T).K rho H env sg)
    (h : Fin (gm X T) (fun c d H' => W c d sg H') rho H ((fr env M).bind g) fun d rho' _ H' => ∀ v, Rep (gm X T).K rho' H' d v → Q v H') :
    dA (gm X T) W fr sg H fun vs H1 => ∃ r1 M1 xs, Post rho H r1 H1 ∧ RelH (gm X T) r1 M1 H1 ∧ RepEnv X.K r1 H1 env sg ∧ Reps X.K r1 H1 xs vs ∧ Fin (gm X T) (fun c d H' => W c d sg H') r1 H1 (g xs M1) fun d rho' _ H' => ∀ v, Rep (gm X T).K rho' H' d v → Q v H' :=
  ⟨rho, env, M, r, e, Fin.mono (Fin.bind h) fun xs r1 M1 H1 p1 q1 h1 vs rv => ⟨r1, M1, xs, p1, q1, e.post r p1, rv, h1⟩⟩
variable {k n : Nat} {f : Addr} {fd : FuncData} {ps ks : List Str} {Fn : FF} {plan : List Ix} {dfl : List D} {dvs : List V} {x : Str} {p : Pos}
theorem d_call (F : FnG X.prog X.w X.K T X.mg X.base k f fd ps Fn) (hr : Room k X.A) (hgd : X.A.guards = some []) (tk : Takes X W) (hb : BK X.K fd ps n [] plan dvs) (hd : RepCs X.K dfl dvs) (hpl : plan.length = ps.length)
    (hg : Gl X x) (hm : X.mg x = some (.ref f)) (hk : PySem.W.keepIn X.K (.ref f) = true) (ha : DA X T W (e :: es) fr) (hdb : (x == ("__debug__" : Str)) = false := by decide)
    (he : starEach (e :: es) X.env = (false, eval e X.env) :: starEach es X.env := by rfl) (hpa : (backTo pos (starEach es X.env)).any (·.1) = false := by rfl) : DE X T W (.Call (.Name x p) (e :: es) [] pos) (eCall n 0 plan dfl Fn fr aNil) := by
  refine ⟨fun pins s sg H Q I ⟨rho, env, M, r, ev, h⟩ => ?_⟩
  refine wpAny_Call_Name_kw (ld_glob I hg hm ?_ hdb)
  refine PySem.W.callWith_K (h₀ := X.base) I.ok.mod.kin hk (thn (ha.run pos pins s sg H _ I (args_use (g := fun xs M1 => callD n 0 plan dfl Fn xs [] M1) r ev h)) fun us s1 ⟨vs, H1, I1, rv, r1, M1, xs, p1, q1, e1, rx, h1⟩ => ⟨I1.kIn, ?_⟩) he hpa
  exact run_G (ks := []) (ws := []) (zs := []) (kd := []) F hr hgd tk hb hd hpl I1 rv .nil q1 rx rfl h1
theorem d_call0 (F : FnG X.prog X.w X.K T X.mg X.base k f fd ps Fn) (hr : Room k X.A) (hgd : X.A.guards = some []) (tk : Takes X W) (hb : BK X.K fd ps 0 [] plan dvs) (hd : RepCs X.K dfl dvs) (hpl : plan.length = ps.length)
    (hg : Gl X x) (hm : X.mg x = some (.ref f)) (hk : PySem.W.keepIn X.K (.ref f) = true) (hdb : (x == ("__debug__" : Str)) = false := by decide) : DE X T W (.Call (.Name x p) [] [] pos) (eCall 0 0 plan dfl Fn aNil aNil) := by
  refine ⟨fun pins s sg H Q I ⟨rho, env, M, r, ev, h⟩ => ?_⟩
  refine wpAny_Call_Name_kw (ld_glob I hg hm ?_ hdb)
  have go := run_G (us := []) (vs := []) (xs := []) (ks := []) (ws := []) (zs := []) (kd := []) F hr hgd tk hb hd hpl I .nil .nil r rfl rfl h
  exact PySem.W.callWith_K0 I.kIn hk go
theorem d_callK {kws : List Keyword} (F : FnG X.prog X.w X.K T X.mg X.base k f fd ps Fn) (hr : Room k X.A) (hgd : X.A.guards = some []) (tk : Takes X W) (hb : BK X.K fd ps n ks plan dvs) (hd : RepCs X.K dfl dvs) (hpl : plan.length = ps.length)
    (hg : Gl X x) (hm : X.mg x = some (.ref f)) (hk : PySem.W.keepIn X.K (.ref f) = true) (ha : DA X T W (e :: es) fr) (hkw : DK X T W kws fk)
    (hall : (backToKw pos (keywordEach kws X.env)).all (·.1.isSome) = true := by rfl) (hks : (backToKw pos (keywordEach kws X.env)).filterMap (·.1) = ks := by rfl) (hdb : (x == ("__debug__" : Str)) = false := by decide)
    (he : starEach (e :: es) X.env = (false, eval e X.env) :: starEach es X.env := by rfl) (hpa : ((backTo pos (starEach (e :: es) X.env)).any (·.1) || (backToKw pos (keywordEach kws X.env)).any (·.1.isNone)) = false := by rfl) : DE X T W (.Call (.Name x p) (e :: es) kws pos) (eCall n ks.length plan dfl Fn fr fk) := by
  refine ⟨fun pins s sg H Q I ⟨rho, env, M, r, ev, h⟩ => ?_⟩
  refine wpAny_Call_Name_kw (ld_glob I hg hm ?_ hdb)
  refine PySem.W.callWith_KW (h₀ := X.base) I.ok.mod.kin hk hall (thn (ha.run pos pins s sg H _ I (args_use (g := fun xs M1 => (fk env M1).bind fun ks' M2 => callD n ks.length plan dfl Fn xs ks' M2) r ev h)) fun us s1 ⟨vs, H1, I1, rv, r1, M1, xs, p1, q1, e1, rx, h1⟩ => ?_) hpa he
  refine thn (hkw.run pos pins s1 sg H1 _ I1 (args_use (fr := fk) (g := fun ks' M2 => callD n ks.length plan dfl Fn xs ks' M2) q1 e1 h1)) fun ws s2 ⟨zs, H2, I2, rz, r2, M2, kd, p2, q2, e2, rk, h2⟩ => ⟨I2.kIn, ?_⟩
  rw [hks]
  exact run_G F hr hgd tk hb hd hpl I2 rv rz q2 (q1.reps p2 rx) rk h2
theorem d_callK0 {kws : List Keyword} (F : FnG X.prog X.w X.K T X.mg X.base k f fd ps Fn) (hr : Room k X.A) (hgd : X.A.guards = some []) (tk : Takes X W) (hb : BK X.K fd ps 0 ks plan dvs) (hd : RepCs X.K dfl dvs) (hpl : plan.length = ps.length)
    (hg : Gl X x) (hm : X.mg x = some (.ref f)) (hk : PySem.W.keepIn X.K (.ref f) = true) (hkw : DK X T W kws fk)
    (hall : (backToKw pos (keywordEach kws X.env)).all (·.1.isSome) = true := by rfl) (hks : (backToKw pos (keywordEach kws X.env)).filterMap (·.1) = ks := by rfl) (hdb : (x == ("__debug__" : Str)) = false := by decide)
    (hpa : ((backTo pos (starEach [] X.env)).any (·.1) || (backToKw pos (keywordEach kws X.env)).any (·.1.isNone)) = false := by rfl) : DE X T W (.Call (.Name x p) [] kws pos) (eCall 0 ks.length plan dfl Fn aNil fk) := by
  refine ⟨fun pins s sg H Q I ⟨rho, env, M, r, ev, h⟩ => ?_⟩
  refine wpAny_Call_Name_kw (ld_glob I hg hm ?_ hdb)
  refine PySem.W.callWith_KW0 (h₀ := X.base) I.ok.mod.kin hk hall (thn (hkw.run pos pins s sg H _ I (args_use (fr := fk) (g := fun ks' M2 => callD 0 ks.length plan dfl Fn [] ks' M2) r ev h)) fun ws s2 ⟨zs, H2, I2, rz, r2, M2, kd, p2, q2, e2, rk, h2⟩ => ⟨I2.kIn, ?_⟩) hpa
  rw [hks]
  exact run_G (us := []) (vs := []) (xs := []) F hr hgd tk hb hd hpl I2 .nil rz q2 rfl rk h2
end
end Tr

set_option Elab.async false
set_option linter.all false
set_option maxRecDepth 100000
set_option maxHeartbeats 4000000
namespace Tr
open PySem PySem.Spec PyProof.Rows L2

section
variable {X : Cx} {T : List (Addr × Str)} {W : WX} {a b c e : Expr} {fa fb fc : EF} {pos : Pos} {es : List Expr} {fr fk : AF}
/-! ### numbers -/
def gInt (c : Int → Int → Bool) (f : Int → Int → D) (x y : D) (M : Mem) : R D := match x, y with
  | .int i, .int j => if c i j = true then .ok (f i j) M else .bad
  | _, _ => .bad
def gInt0 (f : Int → Int → D) (x y : D) (M : Mem) : R D := match x, y with
  | .int i, .int j => .ok (f i j) M
  | _, _ => .bad
theorem o_int {f : Value → Value → Sem Value} {C : Int → Int → Prop} {c : Int → Int → Bool} {gv : Int → Int → V} {gd : Int → Int → D} (ho : OpR X f (rI C gv)) (hc : ∀ i j, c i j = true → C i j) (hg : ∀ i j, RepC X.K (gd i j) (gv i j)) : OpD X T f (gInt c gd) :=
  op_imp ho fun x y H Q ⟨W, rho, M, d1, d2, r, rx, ry, h⟩ => by
    unfold gInt at h
    split at h
    · rename_i i j
      split at h
      · rename_i q
        exact ⟨i, j, rx, ry, hc i j q, h.here r _ (hg i j _ _)⟩
      · exact h.elim
    · exact h.elim
theorem o_int0 {f : Value → Value → Sem Value} {gv : Int → Int → V} {gd : Int → Int → D} (ho : OpR X f (rI0 gv)) (hg : ∀ i j, RepC X.K (gd i j) (gv i j)) : OpD X T f (gInt0 gd) :=
  op_imp ho fun x y H Q ⟨W, rho, M, d1, d2, r, rx, ry, h⟩ => by
    unfold gInt0 at h
    split at h
    · rename_i i j
      exact ⟨i, j, rx, ry, h.here r _ (hg i j _ _)⟩
    · exact h.elim
abbrev gSub := gInt0 fun i j => .int (i - j)
theorem o_sub : OpD X T (binaryOp .Sub) gSub := o_int0 op_sub fun _ _ _ _ => rfl
def cMul (i j : Int) : Bool := decide (-(2 ^ 64) < i ∧ i < 2 ^ 64) || decide (-(2 ^ 64) < j ∧ j < 2 ^ 64)
abbrev gMul := gInt cMul fun i j => .int (i * j)
theorem o_mul : OpD X T (binaryOp .Mult) gMul := o_int op_mul (fun i j h => by
  simp only [cMul, Bool.or_eq_true, decide_eq_true_eq] at h
  exact h) fun _ _ _ _ => rfl
def cDiv (i j : Int) : Bool := decide (0 < j ∧ j < 1073741824)
abbrev gFdiv := gInt cDiv fun i j => .int (i / j)
theorem o_fdiv : OpD X T (binaryOp .FloorDiv) gFdiv := o_int op_fdiv (fun i j h => by
  simp only [cDiv, decide_eq_true_eq] at h
  exact h) fun _ _ _ _ => rfl
def cMod (i j : Int) : Bool := decide (0 < j)
abbrev gMod := gInt cMod fun i j => .int (i % j)
theorem o_mod : OpD X T (binaryOp .Mod) gMod := o_int op_mod (fun i j h => by
  simp only [cMod, decide_eq_true_eq] at h
  exact h) fun _ _ _ _ => rfl
def cPow (i j : Int) : Bool := decide (0 ≤ j ∧ j ≤ 1000000 ∧ i.natAbs < 2 ^ 64)
abbrev gPow := gInt cPow fun i j => .int (i ^ j.toNat)
theorem o_pow : OpD X T (binaryOp .Pow) gPow := o_int op_pow (fun i j h => by
  simp only [cPow, decide_eq_true_eq] at h
  exact h) fun _ _ _ _ => rfl
/-! ### one place -/
def eUn (g : D → Mem → R D) (fa : EF) : EF := fun env M => (fa env M).bind g
def rUn (G : Gam) (g : D → Mem → R D) : V → Hp → VK → Prop := fun x H Q => ∃ W rho M d, RelH G rho M H ∧ Rep G.K rho H d x ∧ Fin G W rho H (g d M) fun d rho' _ H' => ∀ v, Rep G.K rho' H' d v → Q v H'
theorem eUn_use {G : Gam} {g : D → Mem → R D} {sg : L2.St} {H : Hp} {Q : VK} (h : dE G W (eUn g fa) sg H Q) : dE G W fa sg H fun x H1 => rUn G g x H1 Q := by
  obtain ⟨rho, env, M, r, e, h⟩ := h
  exact ⟨rho, env, M, r, e, Fin.mono (Fin.bind h) fun d1 r1 M1 H1 p1 q1 h1 x rx => ⟨_, r1, M1, d1, q1, rx, h1⟩⟩
theorem un_imp {f : Value → Sem Value} {r r' : V → Hp → VK → Prop} (h : UnR X f r) (i : ∀ x H Q, r' x H Q → r x H Q) : UnR X f r' := fun pins s sg H x v Q I rx q => h pins s sg H x v Q I rx (i x H Q q)
theorem d_un {op : UnaryOp} {g : D → Mem → R D} (ho : UnR X (unaryOp op) (rUn (gm X T) g)) (ha : DE X T W a fa) : DE X T W (.UnaryOp op a pos) (eUn g fa) := pe_imp (pe_un ho ha) fun _ _ _ h => eUn_use h
def gNeg (x : D) (M : Mem) : R D := match x with
  | .int i => .ok (.int (-i)) M
  | _ => .bad
theorem u_neg : UnR X (unaryOp .USub) (rUn (gm X T) gNeg) := un_imp un_neg fun x H Q ⟨W, rho, M, d, r, rx, h⟩ => by
  unfold gNeg at h
  split at h
  · exact ⟨_, rx, h.here r _ rfl⟩
  · exact h.elim
/-! ### comparisons -/
theorem d_cmp {op : CmpOp} {g : D → D → Mem → R D} (ho : OpD X T (compareOp op) g) (ha : DE X T W a fa) (hb : DE X T W b fb) (hm : behindInMarks op b = false) : DE X T W (.Compare a [op] [b] pos) (eBin g fa fb) :=
  pe_imp (pe_cmpR ho ha hb hm) fun _ _ _ h => eBin_use h
/-- a value as a test -/
def tOf (f : EF) : TF := fun env M => (f env M).bind fun d M1 => match d with
  | .bl b => .ok b M1
  | _ => .bad
theorem tOf_use {G : Gam} {sg : L2.St} {H : Hp} {Q : Bool → Hp → Prop} (h : dT G W (tOf fa) sg H Q) : dE G W fa sg H fun x H1 => ∃ k, x = .bl k ∧ Q k H1 := by
  obtain ⟨rho, env, M, r, e, h⟩ := h
  refine ⟨rho, env, M, r, e, Fin.mono (Fin.bind h) fun d1 r1 M1 H1 p1 q1 h1 x rx => ?_⟩
  split at h1
  · rename_i b
    exact ⟨b, rx, h1.here q1⟩
  · exact h1.elim
theorem dt_cmp {op : CmpOp} {g : D → D → Mem → R D} (ho : OpD X T (compareOp op) g) (ha : DE X T W a fa) (hb : DE X T W b fb) (hm : behindInMarks op b = false) : DT X T W (.Compare a [op] [b] pos) (tOf (eBin g fa fb)) :=
  pt_imp (pt_cmpR ho ha hb hm) fun _ _ _ h => by
    obtain ⟨rho, env, M, r, e, h⟩ := tOf_use h
    exact eBin_use ⟨rho, env, M, r, e, h⟩
theorem dt_val (ha : DE X T W a fa) (he : ∀ whole, isTrue a X.env whole = (do let v ← whole; standAt a.pos; holding [v] (truthy v)) := by intro _; rfl) : DT X T W a (tOf fa) :=
  pt_imp (pt_val ha he) fun _ _ _ h => tOf_use h
def eChain (g g' : D → D → Mem → R D) (fa fb fc : EF) : EF := fun env M => (fa env M).bind fun x M1 => (fb env M1).bind fun y M2 => (g x y M2).bind fun z M3 => match z with
  | .bl true => (fc env M3).bind fun w M4 => g' y w M4
  | .bl false => .ok (.bl false) M3
  | _ => .bad
theorem eChain_use {G : Gam} {g g' : D → D → Mem → R D} {sg : L2.St} {H : Hp} {Q : VK} (h : dE G W (eChain g g' fa fb fc) sg H Q) : tChain (rOp G g) (rOp G g') (dE G W fa) (dE G W fb) (dE G W fc) sg H Q := by
  obtain ⟨rho, env, M, r, e, h⟩ := h
  refine ⟨rho, env, M, r, e, Fin.mono (Fin.bind h) fun d1 r1 M1 H1 p1 q1 h1 x rx => ?_⟩
  refine ⟨r1, env, M1, q1, e.post r p1, Fin.mono (Fin.bind h1) fun d2 r2 M2 H2 p2 q2 h2 y ry => ?_⟩
  refine ⟨_, r2, M2, d1, d2, q2, q1.rep p2 rx, ry, Fin.mono (Fin.bind h2) fun d3 r3 M3 H3 p3 q3 h3 z rz => ?_⟩
  split at h3
  · refine ⟨true, rz, ?_⟩
    rw [if_pos rfl]
    refine ⟨r3, env, M3, q3, e.post r (p1.trans (p2.trans p3)), Fin.mono (Fin.bind h3) fun d4 r4 M4 H4 p4 q4 h4 u ru => ?_⟩
    exact ⟨_, r4, M4, d2, d4, q4, q2.rep (p3.trans p4) ry, ru, h4⟩
  · refine ⟨false, rz, ?_⟩
    rw [if_neg (by decide)]
    exact h3.here q3 _ rfl
  · exact h3.elim
theorem d_chain {op op' : CmpOp} {g g' : D → D → Mem → R D} (ho : OpD X T (compareOp op) g) (ho' : OpD X T (compareOp op') g') (ha : DE X T W a fa) (hb : DE X T W b fb) (hc : DE X T W c fc)
    (hm : lastMarks [op, op'] [b, c] = false := by with_unfolding_all rfl) : DE X T W (.Compare a [op, op'] [b, c] pos) (eChain g g' fa fb fc) := pe_imp (pe_chain ho ho' ha hb hc hm) fun _ _ _ h => eChain_use h
theorem dt_chain {op op' : CmpOp} {g g' : D → D → Mem → R D} (ho : OpD X T (compareOp op) g) (ho' : OpD X T (compareOp op') g') (ha : DE X T W a fa) (hb : DE X T W b fb) (hc : DE X T W c fc)
    (hm : lastMarks [op, op'] [b, c] = false := by with_unfolding_all rfl) : DT X T W (.Compare a [op, op'] [b, c] pos) (tOf (eChain g g' fa fb fc)) := pt_imp (pt_chain ho ho' ha hb hc hm) fun _ _ _ h => by
    obtain ⟨rho, env, M, r, e, h⟩ := tOf_use h
    exact eChain_use ⟨rho, env, M, r, e, h⟩
def strLt (x y : Str) : Bool := decide (x.cps.toList < y.cps.toList)
def intsD : List D → Option (List Int)
  | [] => some []
  | .int i :: r => (intsD r).map (i :: ·)
  | _ :: _ => none
theorem intsD_eq : ∀ {ds : List D} {ns : List Int}, intsD ds = some ns → ds = ns.map D.int
  | [], ns, e => by cases e; rfl
  | .int i :: r, ns, e => by
    unfold intsD at e
    obtain ⟨m, e1, e2⟩ := Option.map_eq_some_iff.mp e
    subst e2
    rw [intsD_eq e1]; rfl
  | .non :: r, ns, e => by cases e
  | .bl _ :: r, ns, e => by cases e
  | .str _ :: r, ns, e => by cases e
  | .ty _ :: r, ns, e => by cases e
  | .adr _ :: r, ns, e => by cases e
  | .obj _ :: r, ns, e => by cases e
  | .tup _ :: r, ns, e => by cases e
  | .ktup _ :: r, ns, e => by cases e
  | .klst _ :: r, ns, e => by cases e
theorem reps_ints {K : PySem.W.Frag} {rho : List Addr} {H : Hp} : ∀ {ns : List Int} {vs : List V}, Reps K rho H (ns.map D.int) vs → vs = ns.map V.int
  | [], vs, h => h
  | n :: ns, vs, h => by
    obtain ⟨v, r, rfl, h1, h2⟩ := h
    rw [reps_ints h2, show v = V.int n from h1]; rfl
theorem reps_strs {K : PySem.W.Frag} {rho : List Addr} {H : Hp} : ∀ {ns : List Str} {vs : List V}, Reps K rho H (ns.map D.str) vs → vs = ns.map V.str
  | [], vs, h => h
  | n :: ns, vs, h => by
    obtain ⟨v, r, rfl, h1, h2⟩ := h
    rw [reps_strs h2, show v = V.str n from h1]; rfl
theorem reps_bls {K : PySem.W.Frag} {rho : List Addr} {H : Hp} : ∀ {ns : List Bool} {vs : List V}, Reps K rho H (ns.map D.bl) vs → vs = ns.map V.bl
  | [], vs, h => h
  | n :: ns, vs, h => by
    obtain ⟨v, r, rfl, h1, h2⟩ := h
    rw [reps_bls h2, show v = V.bl n from h1]; rfl
def strsD : List D → Option (List Str)
  | [] => some []
  | .str i :: r => (strsD r).map (i :: ·)
  | _ :: _ => none
theorem strsD_eq : ∀ {ds : List D} {ns : List Str}, strsD ds = some ns → ds = ns.map D.str
  | [], ns, e => by cases e; rfl
  | .str i :: r, ns, e => by
    unfold strsD at e
    obtain ⟨m, e1, e2⟩ := Option.map_eq_some_iff.mp e
    subst e2
    rw [strsD_eq e1]; rfl
  | .non :: r, ns, e => by cases e
  | .bl _ :: r, ns, e => by cases e
  | .int _ :: r, ns, e => by cases e
  | .ty _ :: r, ns, e => by cases e
  | .adr _ :: r, ns, e => by cases e
  | .obj _ :: r, ns, e => by cases e
  | .tup _ :: r, ns, e => by cases e
  | .ktup _ :: r, ns, e => by cases e
  | .klst _ :: r, ns, e => by cases e
def blsD : List D → Option (List Bool)
  | [] => some []
  | .bl i :: r => (blsD r).map (i :: ·)
  | _ :: _ => none
theorem blsD_eq : ∀ {ds : List D} {ns : List Bool}, blsD ds = some ns → ds = ns.map D.bl
  | [], ns, e => by cases e; rfl
  | .bl i :: r, ns, e => by
    unfold blsD at e
    obtain ⟨m, e1, e2⟩ := Option.map_eq_some_iff.mp e
    subst e2
    rw [blsD_eq e1]; rfl
  | .non :: r, ns, e => by cases e
  | .str _ :: r, ns, e => by cases e
  | .int _ :: r, ns, e => by cases e
  | .ty _ :: r, ns, e => by cases e
  | .adr _ :: r, ns, e => by cases e
  | .obj _ :: r, ns, e => by cases e
  | .tup _ :: r, ns, e => by cases e
  | .ktup _ :: r, ns, e => by cases e
  | .klst _ :: r, ns, e => by cases e
def gLt (x y : D) (M : Mem) : R D := match x, y with
  | .int i, .int j => .ok (.bl (decide (i < j))) M
  | .str i, .str j => .ok (.bl (strLt i j)) M
  | .tup i, .tup j => match intsD i, intsD j with
    | some m, some n => .ok (.bl (HT.lexLt m n)) M
    | _, _ => .bad
  | _, _ => .bad
theorem o_lt (hu : X.A.units < cLine) : OpD X T (compareOp .Lt) gLt := op_imp (op_or op_lt (op_or op_lt_str (op_ltT hu))) fun x y H Q ⟨W, rho, M, d1, d2, r, rx, ry, h⟩ => by
  unfold gLt at h
  split at h
  · exact .inl ⟨_, _, rx, ry, h.here r _ rfl⟩
  · exact .inr (.inl ⟨_, _, rx, ry, h.here r _ rfl⟩)
  · rename_i i j
    split at h
    · rename_i m n hm hn
      have e1 := intsD_eq hm
      have e2 := intsD_eq hn
      subst e1 e2
      obtain ⟨a, vs, rfl, h1, h2⟩ := rx
      obtain ⟨b, ws, rfl, h3, h4⟩ := ry
      rw [reps_ints h2] at h1
      rw [reps_ints h4] at h3
      exact .inr (.inr ⟨a, b, m, n, rfl, rfl, SqT.of h1, SqT.of h3, h.here r _ rfl⟩)
    · exact h.elim
  · exact h.elim
abbrev gLe := gInt0 fun i j => .bl (decide (i ≤ j))
abbrev gGt := gInt0 fun i j => .bl (decide (j < i))
abbrev gGe := gInt0 fun i j => .bl (decide (j ≤ i))
theorem o_le : OpD X T (compareOp .LtE) gLe := o_int0 op_le fun _ _ _ _ => rfl
theorem o_gt : OpD X T (compareOp .Gt) gGt := o_int0 op_gt fun _ _ _ _ => rfl
theorem o_ge : OpD X T (compareOp .GtE) gGe := o_int0 op_ge fun _ _ _ _ => rfl
/-! ### equality -/
def scalD : D → D → Option Bool
  | .int i, .int j => some (decide (i = j))
  | .str i, .str j => some (decide (i = j))
  | .bl i, .bl j => some (decide (i = j))
  | .non, .non => some true
  | .non, .int _ | .int _, .non | .non, .bl _ | .bl _, .non | .non, .str _ | .str _, .non | .int _, .str _ | .str _, .int _ | .bl _, .str _ | .str _, .bl _ => some false
  | _, _ => none
theorem scalD_ok {K : PySem.W.Frag} {rho : List Addr} {H : Hp} {x y : D} {v u : V} {k : Bool} (h : scalD x y = some k) (rx : Rep K rho H x v) (ry : Rep K rho H y u) : scal v u = true ∧ decide (v = u) = k := by
  unfold scalD at h
  split at h <;> (first | (cases h; done) | (cases h; subst rx ry; exact ⟨rfl, by simp⟩))
mutual
def pdW (f : Nat → Option PyData) : D → Option PyData
  | .non => some .none
  | .bl b => some (.bool b)
  | .int i => some (.int i)
  | .str x => some (.str x)
  | .ty _ => none
  | .adr _ => none
  | .obj i => f i
  | .tup xs => (pdsW f xs).map .tuple
  | .ktup xs => (pdsW f xs).map .tuple
  | .klst xs => (pdsW f xs).map .list
def pdsW (f : Nat → Option PyData) : List D → Option (List PyData)
  | [] => some []
  | x :: xs => match pdW f x, pdsW f xs with
    | some a, some r => some (a :: r)
    | _, _ => none
end
def pdO (M : Mem) : Nat → Nat → Option PyData
  | 0, _ => none
  | n + 1, i => match M[i]? with
    | some (.lst xs) => (pdsW (pdO M n) xs).map .list
    | _ => none
def pd (M : Mem) (d : D) : Option PyData := pdW (pdO M 4) d
section
variable {G : Gam} {rho : List Addr} {M : Mem} {H : Hp}
mutual
theorem pdW_ok (f : Nat → Option PyData) (hf : ∀ i v p, Rep G.K rho H (.obj i) v → f i = some p → L2.Dp G.K H v p) : ∀ (d : D) (v : V) (p : PyData), Rep G.K rho H d v → pdW f d = some p → L2.Dp G.K H v p
  | .non, v, p, h, e => by cases e; rw [show v = .non from h]; exact .non
  | .bl b, v, p, h, e => by cases e; rw [show v = .bl b from h]; exact .bl b
  | .int i, v, p, h, e => by cases e; rw [show v = .int i from h]; exact .int i
  | .str i, v, p, h, e => by cases e; rw [show v = .str i from h]; exact .str i
  | .ty _, v, p, h, e => by cases e
  | .adr _, v, p, h, e => by cases e
  | .obj i, v, p, h, e => hf i v p h e
  | .tup xs, v, p, h, e => by
    obtain ⟨ps, e1, e2⟩ := Option.map_eq_some_iff.mp (show (pdsW f xs).map _ = some p from e)
    subst e2
    obtain ⟨a, vs, rfl, h1, h2⟩ := h
    exact .tup (SqT.of h1) (pdsW_ok f hf xs vs ps h2 e1)
  | .ktup xs, v, p, h, e => by
    obtain ⟨ps, e1, e2⟩ := Option.map_eq_some_iff.mp (show (pdsW f xs).map _ = some p from e)
    subst e2
    obtain ⟨a, vs, rfl, h1, h2⟩ := h
    exact .tup h1.sq (pdsW_ok f hf xs vs ps h2 e1)
  | .klst xs, v, p, h, e => by
    obtain ⟨ps, e1, e2⟩ := Option.map_eq_some_iff.mp (show (pdsW f xs).map _ = some p from e)
    subst e2
    obtain ⟨a, vs, rfl, h1, h2⟩ := h
    exact .lst h1.sq (pdsW_ok f hf xs vs ps h2 e1)
theorem pdsW_ok (f : Nat → Option PyData) (hf : ∀ i v p, Rep G.K rho H (.obj i) v → f i = some p → L2.Dp G.K H v p) : ∀ (d : List D) (v : List V) (p : List PyData), Reps G.K rho H d v → pdsW f d = some p → L2.DpAll G.K H v p
  | [], v, p, h, e => by
    cases (show some [] = some p from e)
    rw [show v = [] from h]; exact .nil
  | x :: xs, v, p, h, e => by
    obtain ⟨v, r, rfl, h1, h2⟩ := h
    have e' : (match pdW f x, pdsW f xs with | some a, some r => some (a :: r) | _, _ => none) = some p := e
    split at e'
    · rename_i a ps ea eps
      cases e'
      exact .cons (pdW_ok f hf x v a h1 ea) (pdsW_ok f hf xs r ps h2 eps)
    · cases e'
end
theorem pdO_ok (r : RelH G rho M H) : ∀ (n i : Nat) (v : V) (p : PyData), Rep G.K rho H (.obj i) v → pdO M n i = some p → L2.Dp G.K H v p
  | 0, i, v, p, h, e => by cases e
  | n + 1, i, v, p, h, e => by
    unfold pdO at e
    split at e
    · rename_i xs hx
      obtain ⟨ps, e1, e2⟩ := Option.map_eq_some_iff.mp e
      subst e2
      obtain ⟨q, vs, rfl, _, h1, h2⟩ := r.lst h hx
      exact .lst (SqL.of h1) (pdsW_ok _ (pdO_ok r n) xs vs ps h2 e1)
    · cases e
theorem pd_ok (r : RelH G rho M H) {d : D} {v : V} {p : PyData} (h : Rep G.K rho H d v) (e : pd M d = some p) : L2.Dp G.K H v p := pdW_ok _ (pdO_ok r 4) d v p h e
end
def eqD (M : Mem) (x y : D) : Option Bool := match scalD x y with
  | some k => some k
  | none => match pd M x, pd M y with
    | some p, some q => if SeqAt.shaped p = true ∧ SeqAt.shaped q = true then some (PyData.eqv p q) else none
    | _, _ => none
def gEq (x y : D) (M : Mem) : R D := match eqD M x y with
  | some k => .ok (.bl k) M
  | none => .bad
def gNe (x y : D) (M : Mem) : R D := match eqD M x y with
  | some k => .ok (.bl (!k)) M
  | none => .bad
theorem o_eq (hu : X.A.units + 64 < cLine) : OpD X T (compareOp .Eq) gEq := op_imp (op_or op_eq (op_eqD hu)) fun x y H Q ⟨W, rho, M, d1, d2, r, rx, ry, h⟩ => by
  unfold gEq eqD at h
  split at h
  · rename_i k hk
    split at hk
    · rename_i k' hs
      cases hk
      obtain ⟨h1, h2⟩ := scalD_ok hs rx ry
      exact .inl ⟨h1, by rw [h2]; exact h.here r _ rfl⟩
    · split at hk
      · rename_i p q hp hq
        split at hk
        · rename_i hs
          cases hk
          exact .inr ⟨p, q, pd_ok r rx hp, pd_ok r ry hq, hs.1, hs.2, h.here r _ rfl⟩
        · cases hk
      · cases hk
  · exact h.elim
theorem o_ne (hu : X.A.units + 64 < cLine) : OpD X T (compareOp .NotEq) gNe := op_imp (op_or op_ne (op_neD hu)) fun x y H Q ⟨W, rho, M, d1, d2, r, rx, ry, h⟩ => by
  unfold gNe eqD at h
  split at h
  · rename_i k hk
    split at hk
    · rename_i k' hs
      cases hk
      obtain ⟨h1, h2⟩ := scalD_ok hs rx ry
      exact .inl ⟨h1, by rw [h2]; exact h.here r _ rfl⟩
    · split at hk
      · rename_i p q hp hq
        split at hk
        · rename_i hs
          cases hk
          exact .inr ⟨p, q, pd_ok r rx hp, pd_ok r ry hq, hs.1, hs.2, h.here r _ rfl⟩
        · cases hk
      · cases hk
  · exact h.elim
def isNonD : D → Bool
  | .non => true
  | _ => false
def gIsN (x y : D) (M : Mem) : R D := match y with
  | .non => .ok (.bl (isNonD x)) M
  | _ => .bad
theorem rep_non {K : PySem.W.Frag} {rho : List Addr} {H : Hp} {x : D} {v : V} (h : Rep K rho H x v) : decide (v = .non) = (isNonD x) := by
  cases x with
  | non => rw [show v = .non from h]; rfl
  | bl b => rw [show v = .bl b from h]; simp [isNonD]
  | int b => rw [show v = .int b from h]; simp [isNonD]
  | str b => rw [show v = .str b from h]; simp [isNonD]
  | ty b => rw [show v = .ty b from h]; simp [isNonD]
  | adr b => rw [show v = .ref b from h]; simp [isNonD]
  | obj b => obtain ⟨a, _, rfl⟩ := h; simp [isNonD]
  | tup b => obtain ⟨a, _, rfl, _⟩ := h; simp [isNonD]
  | ktup b => obtain ⟨a, _, rfl, _⟩ := h; simp [isNonD]
  | klst b => obtain ⟨a, _, rfl, _⟩ := h; simp [isNonD]
theorem o_isN : OpD X T (compareOp .Is) gIsN := op_imp op_isN fun x y H Q ⟨W, rho, M, d1, d2, r, rx, ry, h⟩ => by
  unfold gIsN at h
  split at h
  · exact ⟨ry, by rw [rep_non rx]; exact h.here r _ rfl⟩
  · exact h.elim
def gNotN (x y : D) (M : Mem) : R D := match y with
  | .non => .ok (.bl (!isNonD x)) M
  | _ => .bad
theorem o_notN : OpD X T (compareOp .IsNot) gNotN := op_imp op_notN fun x y H Q ⟨W, rho, M, d1, d2, r, rx, ry, h⟩ => by
  unfold gNotN at h
  split at h
  · exact ⟨ry, by rw [rep_non rx]; exact h.here r _ rfl⟩
  · exact h.elim
end
end Tr

set_option Elab.async false
set_option linter.all false
set_option maxRecDepth 100000
set_option maxHeartbeats 4000000
namespace Tr
open PySem PySem.Spec PyProof.Rows L2

section
variable {X : Cx} {T : List (Addr × Str)} {W : WX} {a b c e : Expr} {fa fb fc : EF} {pos : Pos} {es : List Expr} {fr fk : AF} {ft fu : TF}
/-! ### and, or, not, if -/
def eAnd (fa fb : EF) : EF := fun env M => (fa env M).bind fun d M1 => match d with
  | .bl true => fb env M1
  | .bl false => .ok (.bl false) M1
  | _ => .bad
def eOr (fa fb : EF) : EF := fun env M => (fa env M).bind fun d M1 => match d with
  | .bl true => .ok (.bl true) M1
  | .bl false => fb env M1
  | _ => .bad
def eNot (fa : EF) : EF := fun env M => (fa env M).bind fun d M1 => match d with
  | .bl b => .ok (.bl (!b)) M1
  | _ => .bad
theorem d_one1 {op} (ha : DE X T W a fa) : DE X T W (.BoolOp op [a] pos) fa := pe_one ha
theorem d_and {rest : List Expr} (ha : DE X T W a fa) (hb : DE X T W (.BoolOp .And (b :: rest) pos) fb) : DE X T W (.BoolOp .And (a :: b :: rest) pos) (eAnd fa fb) := pe_imp (pe_and ha hb) fun sg H Q ⟨rho, env, M, r, e, h⟩ =>
  ⟨rho, env, M, r, e, Fin.mono (Fin.bind h) fun d r1 M1 H1 p1 q1 h1 x rx => by
    split at h1
    · exact ⟨true, rx, by rw [if_pos rfl]; exact ⟨r1, env, M1, q1, e.post r p1, h1⟩⟩
    · exact ⟨false, rx, by rw [if_neg (by decide)]; exact h1.here q1 _ rfl⟩
    · exact h1.elim⟩
theorem d_or {rest : List Expr} (ha : DE X T W a fa) (hb : DE X T W (.BoolOp .Or (b :: rest) pos) fb) : DE X T W (.BoolOp .Or (a :: b :: rest) pos) (eOr fa fb) := pe_imp (pe_or ha hb) fun sg H Q ⟨rho, env, M, r, e, h⟩ =>
  ⟨rho, env, M, r, e, Fin.mono (Fin.bind h) fun d r1 M1 H1 p1 q1 h1 x rx => by
    split at h1
    · exact ⟨true, rx, by rw [if_pos rfl]; exact h1.here q1 _ rfl⟩
    · exact ⟨false, rx, by rw [if_neg (by decide)]; exact ⟨r1, env, M1, q1, e.post r p1, h1⟩⟩
    · exact h1.elim⟩
theorem d_not (ha : DE X T W a fa) : DE X T W (.UnaryOp .Not a pos) (eNot fa) := pe_imp (pe_not ha) fun sg H Q ⟨rho, env, M, r, e, h⟩ =>
  ⟨rho, env, M, r, e, Fin.mono (Fin.bind h) fun d r1 M1 H1 p1 q1 h1 x rx => by
    split at h1
    · rename_i b
      exact ⟨b, rx, h1.here q1 _ rfl⟩
    · exact h1.elim⟩
abbrev DW (X : Cx) (T : List (Addr × Str)) (W : WX) (e : Expr) (f : TF) : Prop := PW X e (dT (gm X T) W f)
def tAndD (ft fu : TF) : TF := fun env M => (ft env M).bind fun b M1 => if b = true then fu env M1 else .ok false M1
def tOrD (ft fu : TF) : TF := fun env M => (ft env M).bind fun b M1 => if b = true then .ok true M1 else fu env M1
def tNotD (ft : TF) : TF := fun env M => (ft env M).bind fun b M1 => .ok (!b) M1
theorem dw_and1 (ha : DT X T W a ft) : DW X T W (.BoolOp .And [a] pos) ft := pw_and1 ha
theorem dw_or1 (ha : DT X T W a ft) : DW X T W (.BoolOp .Or [a] pos) ft := pw_or1 ha
theorem dw_and {rest : List Expr} (ha : DT X T W a ft) (hb : DW X T W (.BoolOp .And (b :: rest) pos) fu) : DW X T W (.BoolOp .And (a :: b :: rest) pos) (tAndD ft fu) := pw_imp (pw_and ha hb) fun sg H Q ⟨rho, env, M, r, e, h⟩ =>
  ⟨rho, env, M, r, e, Fin.mono (Fin.bind h) fun d r1 M1 H1 p1 q1 h1 => by
    cases d with
    | true => exact ⟨r1, env, M1, q1, e.post r p1, h1⟩
    | false => exact h1.here q1⟩
theorem dw_or {rest : List Expr} (ha : DT X T W a ft) (hb : DW X T W (.BoolOp .Or (b :: rest) pos) fu) : DW X T W (.BoolOp .Or (a :: b :: rest) pos) (tOrD ft fu) := pw_imp (pw_or ha hb) fun sg H Q ⟨rho, env, M, r, e, h⟩ =>
  ⟨rho, env, M, r, e, Fin.mono (Fin.bind h) fun d r1 M1 H1 p1 q1 h1 => by
    cases d with
    | true => exact h1.here q1
    | false => exact ⟨r1, env, M1, q1, e.post r p1, h1⟩⟩
theorem dt_w (h : DW X T W a ft) : DT X T W a ft := h.pt
theorem dt_not (ha : DT X T W a ft) : DT X T W (.UnaryOp .Not a pos) (tNotD ft) := pt_imp (pt_not ha) fun sg H Q ⟨rho, env, M, r, e, h⟩ =>
  ⟨rho, env, M, r, e, Fin.mono (Fin.bind h) fun d r1 M1 H1 p1 q1 h1 => h1.here q1⟩
def eIf (ft : TF) (fa fb : EF) : EF := fun env M => (ft env M).bind fun b M1 => if b = true then fa env M1 else fb env M1
theorem d_ifx (hc : DT X T W c ft) (ha : DE X T W a fa) (hb : DE X T W b fb) : DE X T W (.IfExp c a b pos) (eIf ft fa fb) := pe_imp (pe_ifExp hc ha hb) fun sg H Q ⟨rho, env, M, r, e, h⟩ =>
  ⟨rho, env, M, r, e, Fin.mono (Fin.bind h) fun d r1 M1 H1 p1 q1 h1 => by
    cases d with
    | true => exact ⟨r1, env, M1, q1, e.post r p1, h1⟩
    | false => exact ⟨r1, env, M1, q1, e.post r p1, h1⟩⟩

/-! ### an item -/
theorem ix_imp {r r' : R2} (h : IxR X r) (i : ∀ x y H Q, r' x y H Q → r x y H Q) : IxR X r' := fun value slice pins s sg H x y v u Q I rx ry q hs => h value slice pins s sg H x y v u Q I rx ry (i x y H Q q) hs
def rIxD : R2 := fun x y H Q => ∃ a v, x = .ref a ∧ DGet H a y (some v) ∧ Q v H
theorem ix_dict (hu : X.A.units + 1 < cLine) : IxR X rIxD := by
  intro value slice pins s sg H x y v u Q I rx ry h hs
  obtain ⟨a, z, rfl, g, q⟩ := h
  cases rx
  exact tail_any (dict_typeIs I g) PySem.F.slot_dict_getitem.lookup (d_getItem hu I g ry fun w' s3 I3 rw' => ⟨z, H, I3, rw', q⟩) hs
theorem atI_rep {K : PySem.W.Frag} {rho : List Addr} {H : Hp} {ds : List D} {vs : List V} {i : Int} {d : D} (h : Reps K rho H ds vs) (e : atI ds i = some d) : ∃ v, atI vs i = some v ∧ Rep K rho H d v := by
  unfold atI at e ⊢
  rw [reps_len h]
  cases q : ixN ds.length i with
  | none => rw [q] at e; cases e
  | some j =>
    rw [q] at e
    obtain ⟨v, h1, h2⟩ := reps_get h (show ds[j]? = some d from e)
    exact ⟨v, h1, h2⟩
/-- a dict's key -/
def keyD : D → Option Key
  | .int i => some (.inl i)
  | .str x => some (.inr x)
  | _ => none
def keysD : D → Option (List Key)
  | .tup xs => go xs
  | _ => none
where go : List D → Option (List Key)
  | [] => some []
  | x :: xs => match keyD x, go xs with
    | some k, some r => some (k :: r)
    | _, _ => none
theorem keyD_rep {K : PySem.W.Frag} {rho : List Addr} {H : Hp} {d : D} {v : V} {k : Key} (h : Rep K rho H d v) (e : keyD d = some k) : v = kV k := by
  unfold keyD at e
  split at e
  · cases e; exact h
  · cases e; exact h
  · cases e
theorem keysD_go {K : PySem.W.Frag} {rho : List Addr} {H : Hp} : ∀ {ds : List D} {vs : List V} {ks : List Key}, Reps K rho H ds vs → keysD.go ds = some ks → vs = ks.map kV
  | [], vs, ks, h, e => by cases e; exact h
  | x :: xs, vs, ks, h, e => by
    obtain ⟨v, r, rfl, h1, h2⟩ := h
    have e' : (match keyD x, keysD.go xs with | some k, some r => some (k :: r) | _, _ => none) = some ks := e
    split at e'
    · rename_i k r' ek er
      cases e'
      rw [keyD_rep h1 ek, keysD_go h2 er]; rfl
    · cases e'
def getG {k : Type} [DecidableEq k] (kvs : List (k × D)) (x : k) : Option D := (kvs.find? fun kv => decide (kv.1 = x)).map (·.2)
def putG {k : Type} [DecidableEq k] (kvs : List (k × D)) (x : k) (v : D) : List (k × D) := if (kvs.any fun kv => decide (kv.1 = x)) = true then kvs.map (fun kv => if kv.1 = x then (kv.1, v) else kv) else kvs ++ [(x, v)]
section
variable {K : PySem.W.Frag} {rho : List Addr} {H : Hp} {k : Type} [DecidableEq k]
theorem kv_len : ∀ {ds : List (k × D)} {vs : List (k × V)}, RepKV K rho H ds vs → vs.length = ds.length
  | [], vs, h => by rw [show vs = [] from h]; rfl
  | (a, x) :: xs, vs, h => by
    obtain ⟨v, r, rfl, _, h2⟩ := h
    simp [kv_len h2]
theorem kv_any (x : k) : ∀ {ds : List (k × D)} {vs : List (k × V)}, RepKV K rho H ds vs → (vs.any fun kv => decide (kv.1 = x)) = ds.any fun kv => decide (kv.1 = x)
  | [], vs, h => by rw [show vs = [] from h]; rfl
  | (a, y) :: xs, vs, h => by
    obtain ⟨v, r, rfl, _, h2⟩ := h
    rw [List.any_cons, List.any_cons, kv_any x h2]
theorem kv_get (x : k) : ∀ {ds : List (k × D)} {vs : List (k × V)}, RepKV K rho H ds vs → (∀ d, getG ds x = some d → ∃ v, valV vs x = some v ∧ Rep K rho H d v) ∧ (getG ds x = none → valV vs x = none)
  | [], vs, h => by
    rw [show vs = [] from h]
    exact ⟨fun d e => (by cases (show (none : Option D) = some d from e)), fun _ => rfl⟩
  | (a, y) :: xs, vs, h => by
    obtain ⟨v, r, rfl, h1, h2⟩ := h
    obtain ⟨i1, i2⟩ := kv_get x h2
    by_cases e : a = x
    · refine ⟨fun d q => ?_, fun q => ?_⟩
      · have : getG ((a, y) :: xs) x = some y := by simp [getG, List.find?_cons, e]
        rw [this] at q
        cases q
        exact ⟨v, valV_pos e, h1⟩
      · have : getG ((a, y) :: xs) x = some y := by simp [getG, List.find?_cons, e]
        rw [this] at q
        cases q
    · have e1 : getG ((a, y) :: xs) x = getG xs x := by simp [getG, List.find?_cons, e]
      have e2 : valV ((a, v) :: r) x = valV r x := by simp [valV, List.find?_cons, e]
      rw [e1, e2]
      exact ⟨i1, i2⟩
theorem kv_map (x : k) {d : D} {v : V} (q : Rep K rho H d v) : ∀ {ds : List (k × D)} {vs : List (k × V)}, RepKV K rho H ds vs → RepKV K rho H (ds.map fun kv => if kv.1 = x then (kv.1, d) else kv) (vs.map fun kv => if kv.1 = x then (kv.1, v) else kv)
  | [], vs, h => by rw [show vs = [] from h]; rfl
  | (a, y) :: xs, vs, h => by
    obtain ⟨u, r, rfl, h1, h2⟩ := h
    rw [List.map_cons, List.map_cons]
    by_cases e : a = x
    · rw [if_pos e, if_pos e]
      exact ⟨v, _, rfl, q, kv_map x q h2⟩
    · rw [if_neg e, if_neg e]
      exact ⟨u, _, rfl, h1, kv_map x q h2⟩
theorem kv_app : ∀ {ds es : List (k × D)} {vs ws : List (k × V)}, RepKV K rho H ds vs → RepKV K rho H es ws → RepKV K rho H (ds ++ es) (vs ++ ws)
  | [], es, vs, ws, h, h' => by rw [show vs = [] from h]; exact h'
  | (a, x) :: xs, es, vs, ws, h, h' => by
    obtain ⟨v, r, rfl, h1, h2⟩ := h
    exact ⟨v, r ++ ws, rfl, h1, kv_app h2 h'⟩
theorem kv_put (x : k) {d : D} {v : V} (q : Rep K rho H d v) {ds : List (k × D)} {vs : List (k × V)} (h : RepKV K rho H ds vs) : RepKV K rho H (putG ds x d) (putK vs x v) := by
  unfold putG putK
  rw [kv_any x h]
  split
  · exact kv_map x q h
  · exact kv_app h ⟨v, [], rfl, q, rfl⟩
end
/-- d[k] of a dict of ours -/
def dictGet (m : MO) (y : D) : Option (Option D) := match m with
  | .dK kvs => (keyD y).map (getG kvs)
  | .lkK kvs => (keyD y).map (getG kvs)
  | .dT kvs => (keysD y).map (getG kvs)
  | .lkT kvs => (keysD y).map (getG kvs)
  | _ => none
end
end Tr

set_option Elab.async false
set_option linter.all false
set_option maxRecDepth 100000
set_option maxHeartbeats 4000000
namespace Tr
open PySem PySem.Spec PyProof.Rows L2

section
variable {X : Cx} {T : List (Addr × Str)} {W : WX} {a b c e : Expr} {fa fb fc : EF} {pos : Pos} {es : List Expr} {fr fk : AF} {ft fu : TF}
/-- what a list or tuple holds -/
def seqD (d : D) (M : Mem) : Option (List D) := match d with
  | .tup xs => some xs
  | .ktup xs => some xs
  | .klst xs => some xs
  | .obj i => match M[i]? with
    | some (.lst xs) => some xs
    | _ => none
  | _ => none
theorem seq_sq {G : Gam} {rho : List Addr} {M : Mem} {H : Hp} (r : RelH G rho M H) {d : D} {v : V} {xs : List D} (h : Rep G.K rho H d v) (e : seqD d M = some xs) : ∃ p vs, v = .ref p ∧ (SqL G.K H p vs ∨ SqT G.K H p vs) ∧ Reps G.K rho H xs vs := by
  unfold seqD at e
  split at e
  · cases e; obtain ⟨p, vs, rfl, h1, h2⟩ := h; exact ⟨p, vs, rfl, .inr (SqT.of h1), h2⟩
  · cases e; obtain ⟨p, vs, rfl, h1, h2⟩ := h; exact ⟨p, vs, rfl, .inr h1.sq, h2⟩
  · cases e; obtain ⟨p, vs, rfl, h1, h2⟩ := h; exact ⟨p, vs, rfl, .inl h1.sq, h2⟩
  · split at e
    · rename_i hm
      cases e
      obtain ⟨p, vs, rfl, _, h1, h2⟩ := r.lst h hm
      exact ⟨p, vs, rfl, .inl (SqL.of h1), h2⟩
    · cases e
  · cases e
theorem obj_m {G : Gam} {rho : List Addr} {M : Mem} {H : Hp} (r : RelH G rho M H) {j : Nat} {v : V} {m : MO} (h : Rep G.K rho H (.obj j) v) (hm : M[j]? = some m) : ∃ a o, v = .ref a ∧ rho[j]? = some a ∧ H a = some o ∧ RepO G.K rho H m o := by
  obtain ⟨a, h1, h2⟩ := h
  obtain ⟨o, h3, h4⟩ := r.at h1 hm
  exact ⟨a, o, h2, h1, h3, h4⟩
theorem dget_ok {G : Gam} {rho : List Addr} {M : Mem} {H : Hp} (r : RelH G rho M H) {j : Nat} {x u : V} {y : D} {m : MO} {o : Option D} (hx : Rep G.K rho H (.obj j) x) (hy : Rep G.K rho H y u) (hm : M[j]? = some m) (e : dictGet m y = some o) :
    ∃ a, x = .ref a ∧ IsD H a ∧ ∃ o', DGet H a u o' ∧ (∀ d, o = some d → ∃ v, o' = some v ∧ Rep G.K rho H d v) ∧ (o = none → o' = none) := by
  obtain ⟨a, ho, rfl, _, h1, h2⟩ := obj_m r hx hm
  refine ⟨a, rfl, ?_⟩
  have kk : ∀ (kvs : List (Key × D)) (vs : List (Key × V)), Rd H a (.dK vs) → RepKV G.K rho H kvs vs → (keyD y).map (getG kvs) = some o →
      IsD H a ∧ ∃ o', DGet H a u o' ∧ (∀ d, o = some d → ∃ v, o' = some v ∧ Rep G.K rho H d v) ∧ (o = none → o' = none) := fun kvs vs hr hk e => by
    obtain ⟨k, e1, e2⟩ := Option.map_eq_some_iff.mp e
    obtain ⟨g1, g2⟩ := kv_get k hk
    exact ⟨.inl ⟨vs, hr⟩, valV vs k, .inl ⟨vs, k, hr, keyD_rep hy e1, rfl⟩, fun d q => g1 d (e2.trans q), fun q => g2 (e2.trans q)⟩
  have tt : ∀ (kvs : List (List Key × D)) (vs : List (List Key × V)), Rd H a (.dT vs) → RepKV G.K rho H kvs vs → (keysD y).map (getG kvs) = some o →
      IsD H a ∧ ∃ o', DGet H a u o' ∧ (∀ d, o = some d → ∃ v, o' = some v ∧ Rep G.K rho H d v) ∧ (o = none → o' = none) := fun kvs vs hr hk e => by
    obtain ⟨k, e1, e2⟩ := Option.map_eq_some_iff.mp e
    obtain ⟨g1, g2⟩ := kv_get k hk
    have : ∃ b, u = .ref b ∧ H b = some (.tup (k.map kV)) := by
      unfold keysD at e1
      split at e1
      · obtain ⟨b, ws, rfl, hb, hw⟩ := hy
        exact ⟨b, rfl, by rw [hb, keysD_go hw e1]⟩
      · cases e1
    obtain ⟨b, eu, hb⟩ := this
    exact ⟨.inr ⟨vs, hr⟩, valV vs k, .inr ⟨vs, k, b, hr, eu, hb, rfl⟩, fun d q => g1 d (e2.trans q), fun q => g2 (e2.trans q)⟩
  cases m with
  | lst xs => cases e
  | ins C xs => cases e
  | dK kvs => obtain ⟨vs, rfl, h3⟩ := h2; exact kk kvs vs (.inl h1) h3 e
  | lkK kvs => obtain ⟨ob, vs, rfl, h3⟩ := h2; exact kk kvs vs (.inr ⟨ob, h1⟩) h3 e
  | dT kvs => obtain ⟨vs, rfl, h3⟩ := h2; exact tt kvs vs (.inl h1) h3 e
  | lkT kvs => obtain ⟨ob, vs, rfl, h3⟩ := h2; exact tt kvs vs (.inr ⟨ob, h1⟩) h3 e
def dGetD (x y : D) (M : Mem) : Option (Option D) := match x with
  | .obj j => (M[j]?).bind fun m => dictGet m y
  | _ => none
theorem dgetD_ok {G : Gam} {rho : List Addr} {M : Mem} {H : Hp} (r : RelH G rho M H) {x y : D} {v u : V} {o : Option D} (hx : Rep G.K rho H x v) (hy : Rep G.K rho H y u) (e : dGetD x y M = some o) :
    ∃ a, v = .ref a ∧ IsD H a ∧ ∃ o', DGet H a u o' ∧ (∀ d, o = some d → ∃ v, o' = some v ∧ Rep G.K rho H d v) ∧ (o = none → o' = none) := by
  unfold dGetD at e
  split at e
  · obtain ⟨m, h1, h2⟩ := Option.bind_eq_some_iff.mp e
    exact dget_ok r hx hy h1 h2
  · cases e
def gIx (x y : D) (M : Mem) : R D := match x with
  | .str z => (match y with
    | .int i => if z.length ≤ lim then (match atI z.cps.toList i with
      | some c => .ok (.str ⟨#[c]⟩) M
      | none => .bad) else .bad
    | _ => .bad)
  | x => match seqD x M with
    | some xs => (match y with
      | .int i => (match atI xs i with
        | some d => .ok d M
        | none => .bad)
      | _ => .bad)
    | none => match dGetD x y M with
      | some (some d) => .ok d M
      | _ => .bad
theorem i_ix (hu : X.A.units + 1 < cLine) : IxR X (rOp (gm X T) gIx) := ix_imp (ix_seq.or (ix_dict hu)) fun x y H Q ⟨W, rho, M, d1, d2, r, rx, ry, h⟩ => by
  unfold gIx at h
  split at h
  · rename_i z
    split at h
    · rename_i i
      split at h
      · rename_i hl
        split at h
        · rename_i c hc
          exact .inl (.inr (.inr ⟨z, i, c, rx, ry, by rw [lim_eq]; exact hl, hc, h.here r _ rfl⟩))
        · exact h.elim
      · exact h.elim
    · exact h.elim
  · split at h
    · rename_i xs hx
      split at h
      · rename_i i
        split at h
        · rename_i d hd
          obtain ⟨p, vs, rfl, hp, hv⟩ := seq_sq r rx hx
          obtain ⟨v, e1, e2⟩ := atI_rep hv hd
          rcases hp with hp | hp
          · exact .inl (.inl ⟨p, vs, i, v, rfl, ry, hp, e1, h.here r v e2⟩)
          · exact .inl (.inr (.inl ⟨p, vs, i, v, rfl, ry, hp, e1, h.here r v e2⟩))
        · exact h.elim
      · exact h.elim
    · split at h
      · rename_i d hd
        obtain ⟨a, rfl, _, o', g, g1, _⟩ := dgetD_ok r rx ry hd
        obtain ⟨v, e1, e2⟩ := g1 d rfl
        subst e1
        exact .inr ⟨a, v, rfl, g, h.here r v e2⟩
      · exact h.elim
theorem d_ix (hu : X.A.units + 1 < cLine) (ha : DE X T W a fa) (hb : DE X T W b fb) (hs : PlainIx b) : DE X T W (.Subscript a b pos) (eBin gIx fa fb) := pe_imp (pe_ix (i_ix hu) ha hb hs) fun _ _ _ h => eBin_use h

/-! ### slices -/
abbrev OF := DEnv → Mem → R (Option Int)
def oNone : OF := fun _ M => .ok none M
def oSome (f : EF) : OF := fun env M => (f env M).bind fun d M1 => match d with
  | .int i => .ok (some i) M1
  | _ => .bad
def dO (G : Gam) (W : WX) (f : OF) : TO := fun sg H Q => ∃ rho env M, RelH G rho M H ∧ RepEnv G.K rho H env sg ∧ Fin G (fun c d H' => W c d sg H') rho H (f env M) fun o _ _ H' => Q o H'
abbrev DO (X : Cx) (T : List (Addr × Str)) (W : WX) (e : Option Expr) (f : OF) : Prop := PO X e (dO (gm X T) W f)
theorem po_imp {e : Option Expr} {t t' : TO} (h : PO X e t) (i : ∀ sg H Q, t' sg H Q → t sg H Q) : PO X e t' := ⟨fun pins s sg H Q I q => h.run pins s sg H Q I (i sg H Q q)⟩
theorem d_onone : DO X T W none oNone := po_imp po_none fun sg H Q ⟨rho, env, M, r, e, h⟩ => h.here r
theorem d_osome (h : DE X T W a fa) : DO X T W (some a) (oSome fa) := po_imp (po_some h) fun sg H Q ⟨rho, env, M, r, e, h⟩ =>
  ⟨rho, env, M, r, e, Fin.mono (Fin.bind h) fun d r1 M1 H1 p1 q1 h1 x rx => by
    split at h1
    · rename_i i
      exact ⟨i, rx, h1.here q1⟩
    · exact h1.elim⟩
def cutD (xs : List D) (lo hi : Option Int) : List D := (xs.drop (HT.sIx xs.length 0 lo)).take (HT.sIx xs.length xs.length hi - HT.sIx xs.length 0 lo)
theorem cut_rep {K : PySem.W.Frag} {rho : List Addr} {H : Hp} {xs : List D} {vs : List V} {lo hi : Option Int} (h : Reps K rho H xs vs) : Reps K rho H (cutD xs lo hi) (cutV vs lo hi) := by
  unfold cutD cutV
  rw [reps_len h]
  exact reps_take _ (reps_drop _ h)
def gSl (x : D) (lo hi : Option Int) (M : Mem) : R D := match x with
  | .tup xs => .ok (.tup (cutD xs lo hi)) M
  | .str z => if z.length ≤ lim then .ok (.str (cutS z lo hi)) M else .bad
  | .ktup _ => .bad
  | x => match seqD x M with
    | some xs => .ok (.obj M.length) (M ++ [.lst (cutD xs lo hi)])
    | none => .bad
theorem sl_imp {r r' : V → Option Int → Option Int → Hp → VK → Prop} (h : SlR X r) (i : ∀ x lo hi H Q, r' x lo hi H Q → r x lo hi H Q) : SlR X r' := fun pins s sg H x v vl vu lo hi sl Q I rx hs pl pu q => h pins s sg H x v vl vu lo hi sl Q I rx hs pl pu (i x lo hi H Q q)
def rSl (G : Gam) : V → Option Int → Option Int → Hp → VK → Prop := fun x lo hi H Q => ∃ W rho M d, RelH G rho M H ∧ Rep G.K rho H d x ∧ Fin G W rho H (gSl d lo hi M) fun d rho' _ H' => ∀ v, Rep G.K rho' H' d v → Q v H'
theorem sl_d : SlR X (rSl (gm X T)) := sl_imp (sl_tupA.or (sl_list.or sl_str)) fun x lo hi H Q ⟨W, rho, M, d, r, rx, h⟩ => by
  unfold gSl at h
  split at h
  · rename_i xs
    have rx0 := rx
    obtain ⟨p, vs, rfl, h1, h2⟩ := rx
    refine .inl ⟨p, vs, rfl, SqT.of h1, fun hw => ?_, fun _ q hq => ?_⟩
    · have e : cutD xs lo hi = xs := by
        unfold cutD
        rw [reps_len h2] at hw
        rw [hw.1, hw.2]
        simp
      rw [e] at h
      exact h.here r _ rx0
    · exact h _ _ (Post.side hq) (r.side hq) _ ⟨q, _, rfl, upd_same, r.reps (Post.side hq) (cut_rep h2)⟩
  · rename_i z
    split at h
    · rename_i hl
      exact .inr (.inr ⟨z, rx, by rw [lim_eq]; exact hl, h.here r _ rfl⟩)
    · exact h.elim
  · exact h.elim
  · rename_i n1 n2 n3
    split at h
    · rename_i xs hx
      have : ∃ p vs, x = .ref p ∧ SqL X.K H p vs ∧ Reps X.K rho H xs vs := by
        unfold seqD at hx
        split at hx
        · rename_i ys
          exact (n1 ys rfl).elim
        · rename_i ys
          exact (n3 ys rfl).elim
        · cases hx; obtain ⟨p, vs, rfl, h1, h2⟩ := rx; exact ⟨p, vs, rfl, h1.sq, h2⟩
        · split at hx
          · rename_i hm
            cases hx
            obtain ⟨p, vs, rfl, _, h1, h2⟩ := r.lst rx hm
            exact ⟨p, vs, rfl, SqL.of h1, h2⟩
          · cases hx
        · cases hx
      obtain ⟨p, vs, rfl, h1, h2⟩ := this
      refine .inr (.inl ⟨p, vs, rfl, h1, fun q hq => ?_⟩)
      have q' : RepO X.K rho H (.lst (cutD xs lo hi)) (.lst (cutV vs lo hi)) := ⟨_, rfl, cut_rep h2⟩
      exact h _ _ (Post.new hq) (r.new hq q') _ ⟨q, by rw [r.len]; simp, rfl⟩
    · exact h.elim
def eSl (fa : EF) (lo hi : OF) : EF := fun env M => (fa env M).bind fun x M1 => (lo env M1).bind fun l M2 => (hi env M2).bind fun u M3 => gSl x l u M3
theorem d_slice {lo hi : Option Expr} {fl fh : OF} {p2} (ha : DE X T W a fa) (hl : DO X T W lo fl) (hh : DO X T W hi fh) : DE X T W (.Subscript a (.Slice lo hi none p2) pos) (eSl fa fl fh) := pe_imp (pe_slice sl_d ha hl hh) fun sg H Q ⟨rho, env, M, r, e, h⟩ =>
  ⟨rho, env, M, r, e, Fin.mono (Fin.bind h) fun d r1 M1 H1 p1 q1 h1 x rx => ⟨r1, env, M1, q1, e.post r p1, Fin.mono (Fin.bind h1) fun l r2 M2 H2 p2 q2 h2 => ⟨r2, env, M2, q2, e.post r (p1.trans p2), Fin.mono (Fin.bind h2) fun u r3 M3 H3 p3 q3 h3 =>
    ⟨_, r3, M3, d, q3, q1.rep (p2.trans p3) rx, h3⟩⟩⟩⟩

/-! ### in -/
def scalV : D → Option V
  | .non => some .non
  | .bl b => some (.bl b)
  | .int i => some (.int i)
  | .str x => some (.str x)
  | _ => none
def scalsV : List D → Option (List V)
  | [] => some []
  | x :: xs => match scalV x, scalsV xs with
    | some v, some r => some (v :: r)
    | _, _ => none
theorem scalV_rep {K : PySem.W.Frag} {rho : List Addr} {H : Hp} {d : D} {v u : V} (h : Rep K rho H d v) (e : scalV d = some u) : v = u ∧ flatV v = true := by
  unfold scalV at e
  split at e <;> cases e <;> cases h <;> exact ⟨rfl, rfl⟩
theorem scalsV_rep {K : PySem.W.Frag} {rho : List Addr} {H : Hp} : ∀ {d : List D} {v u : List V}, Reps K rho H d v → scalsV d = some u → v = u ∧ v.all flatV = true
  | [], v, u, h, e => by cases e; rw [show v = [] from h]; exact ⟨rfl, rfl⟩
  | x :: xs, v, u, h, e => by
    obtain ⟨w, r, rfl, h1, h2⟩ := h
    unfold scalsV at e
    split at e
    · rename_i a b ea eb
      cases e
      obtain ⟨e1, e2⟩ := scalV_rep h1 ea
      obtain ⟨e3, e4⟩ := scalsV_rep h2 eb
      subst e1 e3
      exact ⟨rfl, by rw [List.all_cons, e2, e4]; rfl⟩
    · cases e
def inStr (w z : Str) : Bool := !(Builtin.Str.occurrences z w 0 z.length 1).isEmpty
def inD (M : Mem) (x y : D) : Option Bool := match y with
  | .str z => match x with
    | .str w => some (inStr w z)
    | _ => none
  | y => match seqD y M with
    | some ys => match scalV x, scalsV ys with
      | some v, some us => some (inV v us)
      | _, _ => match pd M x, pd M y with
        | some p, some (.list ps) => if SeqAt.shaped p = true ∧ SeqAt.shaped (.list ps) = true then some (ps.any fun z => PyData.eqv z p) else none
        | _, _ => none
    | none => (dGetD y x M).map Option.isSome
def gIn (x y : D) (M : Mem) : R D := match inD M x y with
  | some k => .ok (.bl k) M
  | none => .bad
def gNotIn (x y : D) (M : Mem) : R D := match inD M x y with
  | some k => .ok (.bl (!k)) M
  | none => .bad
def rDIn (neg : Bool) : R2 := fun y x H Q => ∃ a o, x = .ref a ∧ DGet H a y o ∧ Q (.bl (if neg then !o.isSome else o.isSome)) H
theorem op_din (hu : X.A.units + 1 < cLine) : OpR X (compareOp .In) (rDIn false) := by
  intro pins s sg H y x u v Q I ry rx h
  obtain ⟨a, o, rfl, g, q⟩ := h
  cases rx
  exact d_in hu I g ry fun s3 I3 => ⟨.bl o.isSome, H, I3, rfl, q⟩
theorem op_dnotin (hu : X.A.units + 1 < cLine) : OpR X (compareOp .NotIn) (rDIn true) := by
  intro pins s sg H y x u v Q I ry rx h
  obtain ⟨a, o, rfl, g, q⟩ := h
  cases rx
  exact d_notIn hu I g ry fun s3 I3 => ⟨.bl (!o.isSome), H, I3, rfl, q⟩
theorem inD_use {G : Gam} {rho : List Addr} {M : Mem} {H : Hp} {x y : D} {v u : V} {k : Bool} {Q : Bool → Prop} (r : RelH G rho M H) (rx : Rep G.K rho H x v) (ry : Rep G.K rho H y u) (e : inD M x y = some k) (q : Q k) :
    (∃ i j, v = .str i ∧ u = .str j ∧ Q (!(Builtin.Str.occurrences j i 0 j.length 1).isEmpty)) ∨ (∃ p xs, u = .ref p ∧ (SqL G.K H p xs ∨ SqT G.K H p xs) ∧ flatV v = true ∧ xs.all flatV = true ∧ Q (inV v xs)) ∨
      (∃ d ds, L2.Dp G.K H v d ∧ L2.Dp G.K H u (.list ds) ∧ SeqAt.shaped d = true ∧ SeqAt.shaped (.list ds) = true ∧ Q (ds.any fun z => PyData.eqv z d)) ∨ ∃ a o, u = .ref a ∧ DGet H a v o ∧ Q o.isSome := by
  unfold inD at e
  split at e
  · rename_i z
    split at e
    · rename_i w
      cases e
      exact .inl ⟨w, z, rx, ry, q⟩
    · cases e
  · split at e
    · rename_i ys hy
      obtain ⟨p, vs, eu, hp, hv⟩ := seq_sq r ry hy
      split at e
      · rename_i v' us ev eus
        cases e
        obtain ⟨e1, e2⟩ := scalV_rep rx ev
        obtain ⟨e3, e4⟩ := scalsV_rep hv eus
        subst e1 e3
        exact .inr (.inl ⟨p, vs, eu, hp, e2, e4, q⟩)
      · split at e
        · rename_i pp ps e1 e2
          split at e
          · rename_i hs
            cases e
            exact .inr (.inr (.inl ⟨pp, ps, pd_ok r rx e1, pd_ok r ry e2, hs.1, hs.2, q⟩))
          · cases e
        · cases e
    · obtain ⟨o, e1, e2⟩ := Option.map_eq_some_iff.mp e
      obtain ⟨a, ea, _, o', g, g1, g2⟩ := dgetD_ok r ry rx e1
      refine .inr (.inr (.inr ⟨a, o', ea, g, ?_⟩))
      have : o'.isSome = o.isSome := by
        cases o with
        | none =>
          rw [g2 rfl]
          rfl
        | some d =>
          obtain ⟨v', e3, _⟩ := g1 d rfl
          rw [e3]
          rfl
      rw [this, e2]
      exact q
theorem o_in (hu : X.A.units + 65 < cLine) : OpD X T (compareOp .In) gIn := op_imp (op_or op_in_str (op_or op_in_seq (op_or (op_inD hu) (op_din (by omega))))) fun x y H Q ⟨W, rho, M, d1, d2, r, rx, ry, h⟩ => by
  unfold gIn at h
  split at h
  · rename_i k hk
    rcases inD_use (Q := fun k => Q (.bl k) H) r rx ry hk (h.here r _ rfl) with z | ⟨p, xs, h1, h2, h3, h4, q⟩ | z | ⟨a, o, h1, h2, q⟩
    · exact .inl z
    · exact .inr (.inl ⟨p, xs, h1, h2, h3, h4, q⟩)
    · exact .inr (.inr (.inl z))
    · exact .inr (.inr (.inr ⟨a, o, h1, h2, q⟩))
  · exact h.elim
theorem o_notin (hu : X.A.units + 65 < cLine) : OpD X T (compareOp .NotIn) gNotIn := op_imp (op_or op_notin_str (op_or op_notIn_seq (op_or (op_notInD hu) (op_dnotin (by omega))))) fun x y H Q ⟨W, rho, M, d1, d2, r, rx, ry, h⟩ => by
  unfold gNotIn at h
  split at h
  · rename_i k hk
    rcases inD_use (Q := fun k => Q (.bl (!k)) H) r rx ry hk (h.here r _ rfl) with z | ⟨p, xs, h1, h2, h3, h4, q⟩ | z | ⟨a, o, h1, h2, q⟩
    · exact .inl z
    · exact .inr (.inl ⟨p, xs, h1, h2, h3, h4, q⟩)
    · exact .inr (.inr (.inl z))
    · exact .inr (.inr (.inr ⟨a, o, h1, h2, q⟩))
  · exact h.elim
end
end Tr

set_option Elab.async false
set_option linter.all false
set_option maxRecDepth 100000
set_option maxHeartbeats 4000000
namespace Tr
open PySem PySem.Spec PyProof.Rows L2

section
variable {X : Cx} {T : List (Addr × Str)} {W : WX} {a b c e o : Expr} {fa fb fc fo : EF} {pos : Pos} {es : List Expr} {fr fk : AF} {ft fu : TF}
/-! ### o[i] = v -/
/-- a store by values: the memory behind it -/
def gSet (x i v : D) (M : Mem) : Option Mem := match x with
  | .obj j => match M[j]? with
    | some (.lst xs) => (match i with
      | .int k => (ixN xs.length k).map fun n => M.set j (.lst (xs.set n v))
      | _ => none)
    | some (.dK kvs) => if kvs.length < lim then (keyD i).map fun k => M.set j (.dK (putG kvs k v)) else none
    | some (.dT kvs) => if kvs.length < lim then (keysD i).map fun k => M.set j (.dT (putG kvs k v)) else none
    | _ => none
  | _ => none
theorem pset_imp {r r' : TSet} (h : PSet X r) (i : ∀ x y z H Q, r' x y z H Q → r x y z H Q) : PSet X r' := fun pins s sg H o i' v ov iv u Q I ro ri rv q => h pins s sg H o i' v ov iv u Q I ro ri rv (i _ _ _ _ _ q)
theorem pset_or {r r' : TSet} (h : PSet X r) (h' : PSet X r') : PSet X (fun x y z H Q => r x y z H Q ∨ r' x y z H Q) := fun pins s sg H o i' v ov iv u Q I ro ri rv q => q.elim (h pins s sg H o i' v ov iv u Q I ro ri rv) (h' pins s sg H o i' v ov iv u Q I ro ri rv)
def rDSet : TSet := fun o i v H Q => ∃ a H', o = .ref a ∧ DPut H a i v H' ∧ Q H'
theorem set_dict (hu : X.A.units + 1 < cLine) : PSet X rDSet := by
  intro pins s sg H o i v ov iv u Q I ro ri rv h
  obtain ⟨a, H', rfl, g, q⟩ := h
  cases ro
  exact d_setItem hu I g ri rv fun s4 I4 => ⟨H', I4, q⟩
def rSet (G : Gam) : TSet := fun x i v H Q => ∃ rho M d1 d2 d3 M', RelH G rho M H ∧ Rep G.K rho H d1 x ∧ Rep G.K rho H d2 i ∧ Rep G.K rho H d3 v ∧ gSet d1 d2 d3 M = some M' ∧ ∀ H', Post rho H rho H' → RelH G rho M' H' → Q H'
theorem keysD_own {K : PySem.W.Frag} {rho : List Addr} {H : Hp} {y : D} {u : V} {k : List Key} (hy : Rep K rho H y u) (e1 : keysD y = some k) : ∃ b, u = .ref b ∧ H b = some (.tup (k.map kV)) := by
  unfold keysD at e1
  split at e1
  · obtain ⟨b, ws, rfl, hb, hw⟩ := hy
    exact ⟨b, rfl, by rw [hb, keysD_go hw e1]⟩
  · cases e1
theorem set_d (hu : X.A.units + 1 < cLine) : PSet X (rSet (gm X T)) := pset_imp (pset_or set_list (set_dict hu)) fun x i v H Q ⟨rho, M, d1, d2, d3, M', r, rx, ri, rv, h, q⟩ => by
  unfold gSet at h
  split at h
  · rename_i j
    split at h
    · rename_i xs hm
      split at h
      · rename_i k
        obtain ⟨n, e1, e2⟩ := Option.map_eq_some_iff.mp h
        subst e2
        obtain ⟨p, vs, rfl, hp, h1, h2⟩ := r.lst rx hm
        refine .inl ⟨p, vs, k, n, rfl, ri, h1, by rw [reps_len h2]; exact e1, ?_⟩
        exact q _ (Post.put h1 (List.mem_of_getElem? hp)) (r.put hp h1 ⟨_, rfl, reps_set rv n h2⟩)
      · cases h
    · rename_i kvs hm
      split at h
      · rename_i hl
        obtain ⟨k, e1, e2⟩ := Option.map_eq_some_iff.mp h
        subst e2
        obtain ⟨p, ho, rfl, hp, h1, vs, rfl, h2⟩ := obj_m r rx hm
        refine .inr ⟨p, _, rfl, .inl ⟨vs, k, h1, keyD_rep ri e1, by rw [lim_eq, kv_len h2]; exact hl, rfl⟩, ?_⟩
        exact q _ (Post.put h1 (List.mem_of_getElem? hp)) (r.put hp h1 ⟨_, rfl, kv_put k rv h2⟩)
      · cases h
    · rename_i kvs hm
      split at h
      · rename_i hl
        obtain ⟨k, e1, e2⟩ := Option.map_eq_some_iff.mp h
        subst e2
        obtain ⟨p, ho, rfl, hp, h1, vs, rfl, h2⟩ := obj_m r rx hm
        obtain ⟨bb, eb, hb⟩ := keysD_own ri e1
        refine .inr ⟨p, _, rfl, .inr ⟨vs, k, bb, h1, eb, hb, by rw [lim_eq, kv_len h2]; exact hl, rfl⟩, ?_⟩
        exact q _ (Post.put h1 (List.mem_of_getElem? hp)) (r.put hp h1 ⟨_, rfl, kv_put k rv h2⟩)
      · cases h
    · cases h
  · cases h
def gtSub (fo fi : EF) : GF := fun d env M => (fo env M).bind fun x M1 => (fi env M1).bind fun i M2 => match gSet x i d M2 with
  | some M3 => .ok env M3
  | none => .bad
theorem d_gsub {i : Expr} {fi : EF} (hu : X.A.units + 1 < cLine) (ho : DE X T W o fo) (hi : DE X T W i fi)
    (ha : ∀ v, assign (.Subscript o i pos) X.env v = (do
      let ov ← holding [v] (eval o X.env)
      let iv ← holding [v, ov] (eval i X.env)
      standAt pos
      holding [v, ov, iv] (setItem ov iv v)
      release [v, ov, iv] []) := by intro _; rfl) : DG X T [] (.Subscript o i pos) (gtSub fo fi) := pg_imp (pg_sub ho hi (set_d hu) ha) fun v sg H Q ⟨rho, env, M, d, r, e, rv, h⟩ =>
  ⟨rho, env, M, r, e, Fin.any (Fin.mono (Fin.bind h) fun d1 r1 M1 H1 p1 q1 h1 x rx => ⟨r1, env, M1, q1, e.post r p1, Fin.any (Fin.mono (Fin.bind h1) fun d2 r2 M2 H2 p2 q2 h2 i ri => by
    split at h2
    · rename_i M3 hM
      refine ⟨r2, M2, d1, d2, d, M3, q2, q1.rep p2 rx, ri, r.rep (p1.trans p2) rv, hM, fun H' p3 q3 => ?_⟩
      exact h2 r2 H' p3 q3 sg (e.post r (p1.trans (p2.trans p3))) (Out.refl _ _)
    · exact h2.elim)⟩)⟩
/-! ### a, b = t -/
def gtsNil : GsF := fun ds env M => match ds with
  | [] => .ok env M
  | _ => .bad
def gtsCons (f : GF) (g : GsF) : GsF := fun ds env M => match ds with
  | d :: r => (f d env M).bind fun env' M1 => g r env' M1
  | [] => .bad
theorem pgs_imp {es : List Expr} {t t' : TGs} (h : PGs X es t) (i : ∀ v sg H Q, t' v sg H Q → t v sg H Q) : PGs X es t' := ⟨fun pins s sg H v u Q I r q => h.run pins s sg H v u Q I r (i v sg H Q q)⟩
theorem d_gsnil : DGs X T [] [] gtsNil := pgs_imp pgs_nil fun v sg H Q ⟨rho, env, M, ds, r, e, rv, h⟩ => by
  unfold gtsNil at h
  split at h
  · exact ⟨rv, h.here r sg e (Out.refl _ _)⟩
  · exact h.elim
theorem d_gscons {f : GF} {g : GsF} {tg : Expr} {tgs : List Expr} {vs ws : List Nat} (h1 : DG X T vs tg f) (h2 : DGs X T ws tgs g) (hs : (assignEach (tg :: tgs) X.env).map (·.2) = assign tg X.env :: (assignEach tgs X.env).map (·.2) := by rfl) : DGs X T (vs ++ ws) (tg :: tgs) (gtsCons f g) :=
  pgs_imp (pgs_cons h1 h2 hs) fun v sg H Q ⟨rho, env, M, ds, r, e, rv, h⟩ => by
    unfold gtsCons at h
    split at h
    · rename_i d ds'
      obtain ⟨u, us, rfl, h3, h4⟩ := rv
      exact ⟨u, us, rfl, rho, env, M, d, r, e, h3, Fin.mono (Fin.bind h) fun env' r1 M1 H1 p1 q1 h1 sg' e' o1 => ⟨r1, env', M1, ds', q1, e', r.reps p1 h4, Fin.mono h1 fun env2 r2 M2 H2 p2 q2 h2 sg2 e2 o2 => h2 sg2 e2 (o1.trans o2)⟩⟩
    · exact h.elim
def tupD (d : D) : Option (List D) := match d with
  | .tup xs => some xs
  | .ktup xs => some xs
  | _ => none
theorem tup_sq {G : Gam} {rho : List Addr} {H : Hp} {d : D} {v : V} {xs : List D} (h : Rep G.K rho H d v) (e : tupD d = some xs) : ∃ p vs, v = .ref p ∧ SqT G.K H p vs ∧ Reps G.K rho H xs vs := by
  unfold tupD at e
  split at e
  · cases e; obtain ⟨p, vs, rfl, h1, h2⟩ := h; exact ⟨p, vs, rfl, SqT.of h1, h2⟩
  · cases e; obtain ⟨p, vs, rfl, h1, h2⟩ := h; exact ⟨p, vs, rfl, h1.sq, h2⟩
  · cases e
def gtTup (n : Nat) (g : GsF) : GF := fun d env M => match tupD d with
  | some ds => if ds.length = n then g ds env M else .bad
  | none => .bad
theorem d_gtup {tgs : List Expr} {g : GsF} {k n : Nat} {vs : List Nat} (hc : X.calm = true) (h : DGs X T vs tgs g) (hn : (assignEach tgs X.env).length = n := by rfl) (hst : (assignEach tgs X.env).findIdx? (·.1) = none := by rfl) : DG X T vs (.Tuple tgs k pos) (gtTup n g) :=
  pg_imp (pg_tup hc h hn hst) fun v sg H Q ⟨rho, env, M, d, r, e, rv, h⟩ => by
    unfold gtTup at h
    split at h
    · rename_i ds hd
      split at h
      · rename_i hl
        obtain ⟨p, vs, rfl, h1, h2⟩ := tup_sq rv hd
        exact ⟨p, vs, rfl, h1, (reps_len h2).trans hl, rho, env, M, ds, r, e, h2, h⟩
      · exact h.elim
    · exact h.elim

/-! ### o.m(..) of built-in types -/
def tyD (Ty : String) (d : D) (M : Mem) : Bool := match d with
  | .str _ => Ty == "str"
  | .klst _ => Ty == "list"
  | .obj i => match M[i]? with
    | some (.lst _) => Ty == "list"
    | some (.dK _) => Ty == "dict"
    | some (.dT _) => Ty == "dict"
    | _ => false
  | _ => false
theorem tyD_ok {G : Gam} {rho : List Addr} {M : Mem} {H : Hp} (r : RelH G rho M H) {Ty : String} {d : D} {v : V} (h : Rep G.K rho H d v) (e : tyD Ty d M = true) : tyV G.K Ty v H := by
  unfold tyD at e
  split at e
  · rw [show v = _ from h]; exact eq_of_beq e
  · obtain ⟨p, vs, rfl, h1, _⟩ := h
    exact .inl ⟨eq_of_beq e, vs, h1.sq⟩
  · split at e
    · rename_i hm
      obtain ⟨p, vs, rfl, _, h1, _⟩ := r.lst h hm
      exact .inl ⟨eq_of_beq e, vs, SqL.of h1⟩
    · rename_i hm
      obtain ⟨p, ho, rfl, _, h1, vs, rfl, _⟩ := obj_m r h hm
      exact .inr (.inr (.inl ⟨eq_of_beq e, .inl ⟨vs, h1⟩⟩))
    · rename_i hm
      obtain ⟨p, ho, rfl, _, h1, vs, rfl, _⟩ := obj_m r h hm
      exact .inr (.inr (.inl ⟨eq_of_beq e, .inr ⟨vs, h1⟩⟩))
    · cases e
  · cases e
abbrev MF := D → List D → Mem → R D
def eMt (Ty : String) (g : MF) (fo : EF) (fr : AF) : EF := fun env M => (fo env M).bind fun x M1 => if tyD Ty x M1 = true then (fr env M1).bind fun xs M2 => g x xs M2 else .bad
def rMt (G : Gam) (g : MF) : V → List V → Hp → VK → Prop := fun x xs H Q => ∃ W rho M d ds, RelH G rho M H ∧ Rep G.K rho H d x ∧ Reps G.K rho H ds xs ∧ Fin G W rho H (g d ds M) fun d rho' _ H' => ∀ v, Rep G.K rho' H' d v → Q v H'
theorem mt_imp {id : String} {r r' : V → List V → Hp → VK → Prop} (h : MtR X id r) (i : ∀ x xs H Q, r' x xs H Q → r x xs H Q) : MtR X id r' := fun pins s sg H x xs v us Q I rx rs q => h pins s sg H x xs v us Q I rx rs (i x xs H Q q)
abbrev MD (X : Cx) (T : List (Addr × Str)) (id : String) (g : MF) : Prop := MtR X id (rMt (gm X T) g)
variable {name : Str} {apos cpos : Pos} {Ty id : String} {g : MF}
theorem d_mt (pa : PlainAttrs Ty) (slot : Slot Ty name id) (hty : typeOf (.builtin id) = pure (.type "method_descriptor")) (hm : MD X T id g) (ho : DE X T W o fo) (ha : DA X T W (e :: es) fr)
    (hbase : attributeBase o name X.env (eval o X.env) = eval o X.env := by rfl)
    (hfew : ((backTo cpos (starEach (e :: es) X.env)).all (fun x => !x.1) && (backToKw cpos (keywordEach [] X.env)).all (fun x => x.1.isSome)
      && decide ((e :: es).length + ([] : List Keyword).length + (if ([] : List Keyword).isEmpty then 0 else 1) < 30)) = true := by rfl)
    (hline : (apos.endLine == cpos.line) = true := by rfl) (hs : starEach (e :: es) X.env = (false, eval e X.env) :: starEach es X.env := by rfl) (hplain : (backTo cpos (starEach es X.env)).any (·.1) = false := by rfl) :
    DE X T W (.Call (.Attribute o name apos) (e :: es) [] cpos) (eMt Ty g fo fr) := pe_imp (pe_bm pa slot hty hm ho ha hbase hfew hline hs hplain) fun sg H Q ⟨rho, env, M, r, e, h⟩ =>
  ⟨rho, env, M, r, e, Fin.mono (Fin.bind h) fun d r1 M1 H1 p1 q1 h1 x rx => by
    split at h1
    · rename_i ht
      exact ⟨tyD_ok q1 rx ht, r1, env, M1, q1, e.post r p1, Fin.mono (Fin.bind h1) fun ds r2 M2 H2 p2 q2 h2 vs rv => ⟨_, r2, M2, d, ds, q2, q1.rep p2 rx, rv, h2⟩⟩
    · exact h1.elim⟩
theorem d_mt0 (pa : PlainAttrs Ty) (slot : Slot Ty name id) (hty : typeOf (.builtin id) = pure (.type "method_descriptor")) (hm : MD X T id g) (ho : DE X T W o fo)
    (hbase : attributeBase o name X.env (eval o X.env) = eval o X.env := by rfl) (hline : (apos.endLine == cpos.line) = true := by rfl) :
    DE X T W (.Call (.Attribute o name apos) [] [] cpos) (eMt Ty g fo aNil) := pe_imp (pe_bm0 pa slot hty hm ho hbase hline) fun sg H Q ⟨rho, env, M, r, e, h⟩ =>
  ⟨rho, env, M, r, e, Fin.mono (Fin.bind h) fun d r1 M1 H1 p1 q1 h1 x rx => by
    split at h1
    · rename_i ht
      exact ⟨tyD_ok q1 rx ht, _, r1, M1, d, [], q1, rx, rfl, h1⟩
    · exact h1.elim⟩
def gAppend : MF := fun x xs M => match x, xs with
  | .obj j, [y] => match M[j]? with
    | some (.lst ys) => if ys.length < lim then .ok .non (M.set j (.lst (ys ++ [y]))) else .bad
    | _ => .bad
  | _, _ => .bad
theorem m_append : MD X T "list.append" gAppend := mt_imp mt_append fun x xs H Q ⟨W, rho, M, d, ds, r, rx, rs, h⟩ => by
  unfold gAppend at h
  split at h
  · rename_i j y
    split at h
    · rename_i ys hm
      split at h
      · rename_i hl
        obtain ⟨u, us, rfl, h3, h4⟩ := rs
        obtain ⟨p, vs, rfl, hp, h1, h2⟩ := r.lst rx hm
        refine ⟨p, vs, u, rfl, by rw [show us = [] from h4], h1, by rw [lim_eq, reps_len h2]; exact hl, ?_⟩
        exact h _ _ (Post.put h1 (List.mem_of_getElem? hp)) (r.put hp h1 ⟨_, rfl, reps_app h2 ⟨u, [], rfl, h3, rfl⟩⟩) _ rfl
      · exact h.elim
    · exact h.elim
  · exact h.elim
/-- xs.pop(i), 0 or more -/
def gPopAt : MF := fun x xs M => match x, xs with
  | .obj j, [.int i] => match M[j]? with
    | some (.lst ys) => if 0 ≤ i ∧ ys.length ≤ lim then (match ys[i.toNat]? with
      | some y => .ok y (M.set j (.lst (ys.eraseIdx i.toNat)))
      | none => .bad) else .bad
    | _ => .bad
  | _, _ => .bad
theorem m_popAt : MD X T "list.pop" gPopAt := mt_imp mt_popAt fun x xs H Q ⟨W, rho, M, d, ds, r, rx, rs, h⟩ => by
  unfold gPopAt at h
  split at h
  · rename_i j i
    split at h
    · rename_i ys hm
      split at h
      · rename_i hl
        split at h
        · rename_i y hy
          obtain ⟨u, us, rfl, h3, h4⟩ := rs
          obtain ⟨p, vs, rfl, hp, h1, h2⟩ := r.lst rx hm
          obtain ⟨v, e1, e2⟩ := reps_get h2 hy
          have l1 := (List.getElem?_eq_some_iff.mp e1).1
          have l2 := reps_len h2
          have l3 := hl.2
          unfold lim at l3
          refine ⟨p, vs, i, i.toNat, v, rfl, by rw [show u = _ from h3, show us = [] from h4], h1, by omega, by omega, seqIndex_of hl.1 (by omega), e1, ?_⟩
          exact h _ _ (Post.put h1 (List.mem_of_getElem? hp)) (r.put hp h1 ⟨_, rfl, reps_erase _ h2⟩) _ (r.rep (Post.put h1 (List.mem_of_getElem? hp)) e2)
        · exact h.elim
      · exact h.elim
    · exact h.elim
  · exact h.elim
/-- d.get(k), d.get(k, x) -/
def gGet : MF := fun x xs M => match xs with
  | [k] => (match dGetD x k M with
    | some (some d) => .ok d M
    | some none => .ok .non M
    | none => .bad)
  | [k, y] => (match dGetD x k M with
    | some (some d) => .ok d M
    | some none => .ok y M
    | none => .bad)
  | _ => .bad
def rGet : V → List V → Hp → VK → Prop := fun x xs H Q => ∃ a y o, x = .ref a ∧ DGet H a y o ∧ ((xs = [y] ∧ Q (o.getD .non) H) ∨ ∃ z, xs = [y, z] ∧ Q (o.getD z) H)
theorem mt_get (hu : X.A.units + 1 < cLine) : MtR X "dict.get" rGet := by
  intro pins s sg H x xs v us Q I rx rs h
  obtain ⟨a, y, o, rfl, g, h⟩ := h
  cases rx
  rcases h with ⟨rfl, q⟩ | ⟨z, rfl, q⟩
  · obtain ⟨u, rfl, ru⟩ := Vals.one rs
    exact d_get1 hu I g ru fun w' s' I' r' => ⟨_, H, I', r', q⟩
  · obtain ⟨u, u', rfl, ru, ru'⟩ := Vals.two rs
    exact d_get2 hu I g ru ru' fun w' s' I' r' => ⟨_, H, I', r', q⟩
theorem m_get (hu : X.A.units + 1 < cLine) : MD X T "dict.get" gGet := mt_imp (mt_get hu) fun x xs H Q ⟨W, rho, M, d, ds, r, rx, rs, h⟩ => by
  unfold gGet at h
  split at h
  · rename_i k
    obtain ⟨u, us, rfl, h3, h4⟩ := rs
    split at h
    · rename_i dd hd
      obtain ⟨a, rfl, _, o', g, g1, _⟩ := dgetD_ok r rx h3 hd
      obtain ⟨v, e1, e2⟩ := g1 dd rfl
      subst e1
      exact ⟨a, u, _, rfl, g, .inl ⟨by rw [show us = [] from h4], h.here r _ e2⟩⟩
    · rename_i hd
      obtain ⟨a, rfl, _, o', g, _, g2⟩ := dgetD_ok r rx h3 hd
      obtain rfl := g2 rfl
      exact ⟨a, u, _, rfl, g, .inl ⟨by rw [show us = [] from h4], h.here r _ rfl⟩⟩
    · exact h.elim
  · rename_i k y
    obtain ⟨u, us, rfl, h3, u', us', rfl, h4, h5⟩ := rs
    split at h
    · rename_i dd hd
      obtain ⟨a, rfl, _, o', g, g1, _⟩ := dgetD_ok r rx h3 hd
      obtain ⟨v, e1, e2⟩ := g1 dd rfl
      subst e1
      exact ⟨a, u, _, rfl, g, .inr ⟨u', by rw [show us' = [] from h5], h.here r _ e2⟩⟩
    · rename_i hd
      obtain ⟨a, rfl, _, o', g, _, g2⟩ := dgetD_ok r rx h3 hd
      obtain rfl := g2 rfl
      exact ⟨a, u, _, rfl, g, .inr ⟨u', by rw [show us' = [] from h5], h.here r _ h4⟩⟩
    · exact h.elim
  · exact h.elim
end
end Tr

set_option Elab.async false
set_option linter.all false
set_option maxRecDepth 100000
set_option maxHeartbeats 4000000
namespace Tr
open PySem PySem.Spec PyProof.Rows L2

/-! ### calls of built-in functions and types -/
abbrev CF := List D → Mem → R D
def rC (G : Gam) (g : CF) : List V → Hp → VK → Prop := fun xs H Q => ∃ W rho M ds, RelH G rho M H ∧ Reps G.K rho H ds xs ∧ Fin G W rho H (g ds M) fun d rho' _ H' => ∀ v, Rep G.K rho' H' d v → Q v H'
abbrev CD (X : Cx) (T : List (Addr × Str)) (b : Value) (g : CF) : Prop := CallR X b (rC (gm X T) g)
theorem cr_imp {X : Cx} {f : Value} {r r' : List V → Hp → VK → Prop} (h : CallR X f r) (i : ∀ xs H Q, r' xs H Q → r xs H Q) : CallR X f r' := fun pins s sg H xs us Q I rv q => h pins s sg H xs us Q I rv (i xs H Q q)
theorem cr_or {X : Cx} {f : Value} {r r' : List V → Hp → VK → Prop} (h : CallR X f r) (h' : CallR X f r') : CallR X f (fun xs H Q => r xs H Q ∨ r' xs H Q) := fun pins s sg H xs us Q I rv q => q.elim (h pins s sg H xs us Q I rv) (h' pins s sg H xs us Q I rv)
def eCB (g : CF) (fr : AF) : EF := fun env M => (fr env M).bind fun xs M1 => g xs M1
section
variable {X : Cx} {T : List (Addr × Str)} {W : WX} {a b c e : Expr} {fa fb fc : EF} {pos p : Pos} {es : List Expr} {fr fk : AF} {ft fu : TF} {g : CF} {x : Str} {id Ty : String}
theorem eCB_use {G : Gam} {sg : L2.St} {H : Hp} {Q : VK} (h : dE G W (eCB g fr) sg H Q) : tCB (rC G g) (dA G W fr) sg H Q := by
  obtain ⟨rho, env, M, r, e, h⟩ := h
  exact ⟨rho, env, M, r, e, Fin.mono (Fin.bind h) fun ds r1 M1 H1 p1 q1 h1 vs rv => ⟨_, r1, M1, ds, q1, rv, h1⟩⟩
theorem d_cb (hc : CD X T (.builtin id) g) (hg : Gl X x) (hm : X.mg x = none) (hv : bootBuiltins x = some (.builtin id)) (ha : DA X T W (e :: es) fr) (hn : x ≠ "__name__" := by decide) (hdb : (x == ("__debug__" : Str)) = false := by decide)
    (he : starEach (e :: es) X.env = (false, eval e X.env) :: starEach es X.env := by rfl) (hpl : (backTo pos (starEach es X.env)).any (·.1) = false := by rfl) : DE X T W (.Call (.Name x p) (e :: es) [] pos) (eCB g fr) :=
  pe_imp (pe_callB hc hg hm hv ha hn hdb he hpl) fun _ _ _ h => eCB_use h
theorem d_ct (hc : CD X T (.type Ty) g) (hg : Gl X x) (hm : X.mg x = none) (hv : bootBuiltins x = some (.type Ty)) (ha : DA X T W (e :: es) fr) (hn : x ≠ "__name__" := by decide) (hdb : (x == ("__debug__" : Str)) = false := by decide)
    (he : starEach (e :: es) X.env = (false, eval e X.env) :: starEach es X.env := by rfl) (hpl : (backTo pos (starEach es X.env)).any (·.1) = false := by rfl) : DE X T W (.Call (.Name x p) (e :: es) [] pos) (eCB g fr) :=
  pe_imp (pe_callTy hc hg hm hv ha hn hdb he hpl) fun _ _ _ h => eCB_use h
/-! len -/
def lenD (x : D) (M : Mem) : Option Nat := match x with
  | .str y => if y.length ≤ lim then some y.length else none
  | x => match seqD x M with
    | some xs => some xs.length
    | none => match x with
      | .obj j => (match M[j]? with
        | some (.dK kvs) => some kvs.length
        | some (.dT kvs) => some kvs.length
        | _ => none)
      | _ => none
def gLen : CF := fun xs M => match xs with
  | [x] => (match lenD x M with
    | some n => .ok (.int n) M
    | none => .bad)
  | _ => .bad
theorem reps_one {K : PySem.W.Frag} {rho : List Addr} {H : Hp} {d : D} {vs : List V} (h : Reps K rho H [d] vs) : ∃ v, vs = [v] ∧ Rep K rho H d v := by
  obtain ⟨v, r, rfl, h1, h2⟩ := h
  exact ⟨v, by rw [show r = [] from h2], h1⟩
theorem reps_two {K : PySem.W.Frag} {rho : List Addr} {H : Hp} {d d' : D} {vs : List V} (h : Reps K rho H [d, d'] vs) : ∃ v v', vs = [v, v'] ∧ Rep K rho H d v ∧ Rep K rho H d' v' := by
  obtain ⟨v, r, rfl, h1, u, r', rfl, h2, h3⟩ := h
  exact ⟨v, u, by rw [show r' = [] from h3], h1, h2⟩
theorem c_len : CD X T (.builtin "len") gLen := cr_imp (cr_or call_len (cr_or call_lenD call_len_dT)) fun xs H Q ⟨W, rho, M, ds, r, rv, h⟩ => by
  unfold gLen at h
  split at h
  · rename_i x
    split at h
    · rename_i n hn
      obtain ⟨v, rfl, rx⟩ := reps_one rv
      have hq := h.here r _ (show Rep _ _ _ (.int n) (.int n) from rfl)
      unfold lenD at hn
      split at hn
      · rename_i y
        split at hn
        · rename_i hl
          cases hn
          exact .inl ⟨v, _, rfl, by rw [show v = .str y from rx]; exact ⟨by rw [lim_eq]; exact hl, rfl⟩, hq⟩
        · cases hn
      · split at hn
        · rename_i ys hs
          cases hn
          obtain ⟨q, vs, rfl, h1, h2⟩ := seq_sq r rx hs
          refine .inl ⟨_, _, rfl, ?_, hq⟩
          rcases h1 with h1 | h1
          · exact .inl ⟨vs, h1, (reps_len h2).symm⟩
          · exact .inr ⟨vs, h1, (reps_len h2).symm⟩
        · split at hn
          · split at hn
            · rename_i hm
              cases hn
              obtain ⟨q, ho, rfl, _, h1, vs, rfl, h2⟩ := obj_m r rx hm
              exact .inr (.inl ⟨q, vs, rfl, h1, by rw [kv_len h2]; exact hq⟩)
            · rename_i hm
              cases hn
              obtain ⟨q, ho, rfl, _, h1, vs, rfl, h2⟩ := obj_m r rx hm
              exact .inr (.inr ⟨q, vs, rfl, h1, by rw [kv_len h2]; exact hq⟩)
            · cases hn
          · cases hn
    · exact h.elim
  · exact h.elim
/-! list, tuple -/
def keyV : Key → D
  | .inl i => .int i
  | .inr x => .str x
theorem keyV_rep {K : PySem.W.Frag} {rho : List Addr} {H : Hp} (k : Key) : Rep K rho H (keyV k) (kV k) := by
  cases k <;> rfl
theorem kv_keys {K : PySem.W.Frag} {rho : List Addr} {H : Hp} : ∀ {ds : List (Key × D)} {vs : List (Key × V)}, RepKV K rho H ds vs → Reps K rho H (ds.map fun kv => keyV kv.1) (vs.map fun kv => kV kv.1)
  | [], vs, h => by rw [show vs = [] from h]; rfl
  | (a, x) :: xs, vs, h => by
    obtain ⟨v, r, rfl, h1, h2⟩ := h
    exact ⟨_, _, rfl, keyV_rep a, kv_keys h2⟩
def newL (xs : List D) (M : Mem) : R D := .ok (.obj M.length) (M ++ [.lst xs])
theorem newL_ok {G : Gam} {W : XK} {rho : List Addr} {M : Mem} {H : Hp} {xs : List D} {vs : List V} {k : D → List Addr → Mem → Hp → Prop} (r : RelH G rho M H) (h : Reps G.K rho H xs vs) (q : Fin G W rho H (newL xs M) k) : ∀ l, H l = none → k (.obj M.length) (rho ++ [l]) (M ++ [.lst xs]) (upd H l (.lst vs)) ∧ Rep G.K (rho ++ [l]) (upd H l (.lst vs)) (.obj M.length) (.ref l) :=
  fun l hl => ⟨q _ _ (Post.new hl) (r.new hl ⟨vs, rfl, h⟩), l, by rw [r.len]; simp, rfl⟩
def gList : CF := fun xs M => match xs with
  | [x] => (match seqD x M with
    | some ys => newL ys M
    | none => match x with
      | .obj j => (match M[j]? with
        | some (.dK kvs) => newL (kvs.map fun kv => keyV kv.1) M
        | _ => .bad)
      | _ => .bad)
  | _ => .bad
theorem c_list (hc : X.calm = true) : CD X T (.type "list") gList := cr_imp (cr_or call_list_of (call_listD hc)) fun xs H Q ⟨W, rho, M, ds, r, rv, h⟩ => by
  unfold gList at h
  split at h
  · rename_i x
    obtain ⟨v, rfl, rx⟩ := reps_one rv
    split at h
    · rename_i ys hs
      obtain ⟨q, vs, rfl, h1, h2⟩ := seq_sq r rx hs
      exact .inl ⟨q, vs, rfl, h1, fun l hl => let z := newL_ok r h2 h l hl; z.1 _ z.2⟩
    · split at h
      · split at h
        · rename_i hm
          obtain ⟨q, ho, rfl, _, h1, vs, rfl, h2⟩ := obj_m r rx hm
          exact .inr ⟨q, vs, rfl, .inl h1, fun l hl => let z := newL_ok r (kv_keys h2) h l hl; z.1 _ z.2⟩
        · exact h.elim
      · exact h.elim
  · exact h.elim
def gTuple : CF := fun xs M => match xs with
  | [x] => (match tupD x with
    | some _ => .ok x M
    | none => match seqD x M with
      | some ys => .ok (.tup ys) M
      | none => .bad)
  | _ => .bad
theorem seq_l {G : Gam} {rho : List Addr} {M : Mem} {H : Hp} (r : RelH G rho M H) {d : D} {v : V} {xs : List D} (h : Rep G.K rho H d v) (e : seqD d M = some xs) (n : tupD d = none) : ∃ p vs, v = .ref p ∧ SqL G.K H p vs ∧ Reps G.K rho H xs vs := by
  unfold seqD at e
  split at e
  · cases n
  · cases n
  · cases e; obtain ⟨p, vs, rfl, h1, h2⟩ := h; exact ⟨p, vs, rfl, h1.sq, h2⟩
  · split at e
    · rename_i hm
      cases e
      obtain ⟨p, vs, rfl, _, h1, h2⟩ := r.lst h hm
      exact ⟨p, vs, rfl, SqL.of h1, h2⟩
    · cases e
  · cases e
theorem c_tuple : CD X T (.type "tuple") gTuple := cr_imp call_tuple_of fun xs H Q ⟨W, rho, M, ds, r, rv, h⟩ => by
  unfold gTuple at h
  split at h
  · rename_i x
    obtain ⟨v, rfl, rx⟩ := reps_one rv
    split at h
    · rename_i ys ht
      obtain ⟨q, vs, rfl, h1, h2⟩ := tup_sq rx ht
      exact ⟨q, vs, rfl, .inr ⟨h1, h.here r _ rx⟩⟩
    · rename_i ht
      split at h
      · rename_i ys hs
        obtain ⟨q, vs, rfl, h1, h2⟩ := seq_l r rx hs ht
        exact ⟨q, vs, rfl, .inl ⟨h1, fun l hl => h _ _ (Post.side hl) (r.side hl) _ ⟨l, vs, rfl, upd_same, r.reps (Post.side hl) h2⟩⟩⟩
      · exact h.elim
  · exact h.elim
/-! sorted -/
def leS (x y : Str) : Bool := !ltCps y.cps.toList x.cps.toList
def insS (x : Str) : List Str → List Str
  | [] => [x]
  | y :: r => if leS x y = true then x :: y :: r else y :: insS x r
def sortS : List Str → List Str
  | [] => []
  | x :: r => insS x (sortS r)
theorem ltCps_iff : ∀ (x y : List Nat), ltCps x y = decide (x < y) := by
  intro x
  induction x with
  | nil => intro y; cases y <;> simp [ltCps]
  | cons a x ih =>
    intro y
    cases y with
    | nil => simp [ltCps]
    | cons b y =>
      show (decide (a < b) || (a == b && ltCps x y)) = _
      rw [ih, Bool.eq_iff_iff]
      simp [List.cons_lt_cons_iff]
theorem leS_iff (x y : Str) : leS x y = true ↔ x.cps.toList ≤ y.cps.toList := by
  unfold leS
  rw [ltCps_iff]
  simp
theorem leS_total (x y : Str) : leS x y = true ∨ leS y x = true := by
  rw [leS_iff, leS_iff]; exact List.le_total _ _
theorem leS_trans {x y z : Str} (h : leS x y = true) (h' : leS y z = true) : leS x z = true := by
  rw [leS_iff] at *; exact List.le_trans h h'
theorem leS_anti {x y : Str} (h : leS x y = true) (h' : leS y x = true) : x = y := by
  rw [leS_iff] at *
  obtain ⟨a⟩ := x
  obtain ⟨b⟩ := y
  congr 1
  exact Array.ext' (List.le_antisymm h h')
def Up (l : List Str) : Prop := l.Pairwise fun x y => leS x y = true
theorem risingS_up : ∀ (l : List Str) (p : Str), risingS p l = true → (∀ y ∈ l, leS p y = true) ∧ Up l
  | [], p, h => ⟨by simp, .nil⟩
  | x :: r, p, h => by
    have h' : (!ltCps x.cps.toList p.cps.toList && risingS x r) = true := h
    rw [Bool.and_eq_true] at h'
    obtain ⟨a, b⟩ := risingS_up r x h'.2
    exact ⟨fun y hy => (List.mem_cons.mp hy).elim (fun z => by rw [z]; exact h'.1) fun z => leS_trans h'.1 (a y z), .cons a b⟩
theorem sortedS_up {l : List Str} (h : sortedS l = true) : Up l := by
  cases l with
  | nil => exact .nil
  | cons x r =>
    obtain ⟨a, b⟩ := risingS_up r x h
    exact .cons a b
theorem insS_perm (x : Str) : ∀ l : List Str, (insS x l).Perm (x :: l)
  | [] => .refl _
  | y :: r => by
    unfold insS
    split
    · exact .refl _
    · exact ((insS_perm x r).cons y).trans (.swap x y r)
theorem insS_up (x : Str) : ∀ {l : List Str}, Up l → Up (insS x l)
  | [], _ => .cons (by simp) .nil
  | y :: r, h => by
    obtain ⟨a, b⟩ := List.pairwise_cons.mp h
    unfold insS
    split
    · rename_i e
      exact .cons (fun z hz => (List.mem_cons.mp hz).elim (fun q => by rw [q]; exact e) fun q => leS_trans e (a z q)) h
    · rename_i e
      refine .cons (fun z hz => ?_) (insS_up x b)
      rcases List.mem_cons.mp ((insS_perm x r).mem_iff.mp hz) with q | q
      · rw [q]; exact (leS_total x y).resolve_left e
      · exact a z q
theorem sortS_perm : ∀ l : List Str, (sortS l).Perm l
  | [] => .refl _
  | x :: r => (insS_perm x _).trans ((sortS_perm r).cons x)
theorem sortS_up : ∀ l : List Str, Up (sortS l)
  | [] => .nil
  | x :: r => insS_up x (sortS_up r)
theorem up_eq {l m : List Str} (p : l.Perm m) (h : Up l) (h' : Up m) : l = m := List.Perm.eq_of_pairwise (fun a b _ _ x y => leS_anti x y) h h' p
/-! ints -/
def insI (x : Int) : List Int → List Int
  | [] => [x]
  | y :: r => if x ≤ y then x :: y :: r else y :: insI x r
def sortI : List Int → List Int
  | [] => []
  | x :: r => insI x (sortI r)
theorem insI_perm (x : Int) : ∀ l : List Int, (insI x l).Perm (x :: l)
  | [] => .refl _
  | y :: r => by
    unfold insI
    split
    · exact .refl _
    · exact ((insI_perm x r).cons y).trans (.swap x y r)
theorem insI_up (x : Int) : ∀ {l : List Int}, l.Pairwise (· ≤ ·) → (insI x l).Pairwise (· ≤ ·)
  | [], _ => .cons (by simp) .nil
  | y :: r, h => by
    obtain ⟨a, b⟩ := List.pairwise_cons.mp h
    unfold insI
    split
    · rename_i e
      exact .cons (fun z hz => (List.mem_cons.mp hz).elim (fun q => by rw [q]; exact e) fun q => Int.le_trans e (a z q)) h
    · rename_i e
      refine .cons (fun z hz => ?_) (insI_up x b)
      rcases List.mem_cons.mp ((insI_perm x r).mem_iff.mp hz) with q | q
      · rw [q]; omega
      · exact a z q
theorem sortI_perm : ∀ l : List Int, (sortI l).Perm l
  | [] => .refl _
  | x :: r => (insI_perm x _).trans ((sortI_perm r).cons x)
theorem sortI_up : ∀ l : List Int, (sortI l).Pairwise (· ≤ ·)
  | [] => .nil
  | x :: r => insI_up x (sortI_up r)
theorem upI_eq {l m : List Int} (p : l.Perm m) (h : l.Pairwise (· ≤ ·)) (h' : m.Pairwise (· ≤ ·)) : l = m := List.Perm.eq_of_pairwise (fun a b _ _ x y => Int.le_antisymm x y) h h' p
def strK : List (Key × D) → Option (List Str)
  | [] => some []
  | (.inr x, _) :: r => (strK r).map (x :: ·)
  | _ :: _ => none
def intK : List (Key × D) → Option (List Int)
  | [] => some []
  | (.inl x, _) :: r => (intK r).map (x :: ·)
  | _ :: _ => none
theorem strK_eq {K : PySem.W.Frag} {rho : List Addr} {H : Hp} : ∀ {ds : List (Key × D)} {vs : List (Key × V)} {ks : List Str}, RepKV K rho H ds vs → strK ds = some ks → vs.map (·.1) = ks.map Sum.inr
  | [], vs, ks, h, e => by cases e; rw [show vs = [] from h]; rfl
  | (.inr x, d) :: r, vs, ks, h, e => by
    obtain ⟨v, q, rfl, h1, h2⟩ := h
    obtain ⟨m, e1, e2⟩ := Option.map_eq_some_iff.mp (show (strK r).map _ = some ks from e)
    subst e2
    rw [List.map_cons, strK_eq h2 e1]; rfl
  | (.inl x, d) :: r, vs, ks, h, e => by cases e
theorem intK_eq {K : PySem.W.Frag} {rho : List Addr} {H : Hp} : ∀ {ds : List (Key × D)} {vs : List (Key × V)} {ks : List Int}, RepKV K rho H ds vs → intK ds = some ks → vs.map (·.1) = ks.map Sum.inl
  | [], vs, ks, h, e => by cases e; rw [show vs = [] from h]; rfl
  | (.inl x, d) :: r, vs, ks, h, e => by
    obtain ⟨v, q, rfl, h1, h2⟩ := h
    obtain ⟨m, e1, e2⟩ := Option.map_eq_some_iff.mp (show (intK r).map _ = some ks from e)
    subst e2
    rw [List.map_cons, intK_eq h2 e1]; rfl
  | (.inr x, d) :: r, vs, ks, h, e => by cases e
theorem reps_mapS {K : PySem.W.Frag} {rho : List Addr} {H : Hp} : ∀ ns : List Str, Reps K rho H (ns.map D.str) (ns.map V.str)
  | [] => rfl
  | n :: ns => ⟨_, _, rfl, rfl, reps_mapS ns⟩
theorem reps_mapI {K : PySem.W.Frag} {rho : List Addr} {H : Hp} : ∀ ns : List Int, Reps K rho H (ns.map D.int) (ns.map V.int)
  | [] => rfl
  | n :: ns => ⟨_, _, rfl, rfl, reps_mapI ns⟩
/-- sorted(x): a list of texts or ints, a dict's keys -/
def gSorted : CF := fun xs M => match xs with
  | [x] => (match tupD x, seqD x M with
    | none, some ys => (match strsD ys with
      | some ns => if ns.length < 64 then newL ((sortS ns).map D.str) M else .bad
      | none => match intsD ys with
        | some ns => if ns.length < 64 then newL ((sortI ns).map D.int) M else .bad
        | none => .bad)
    | _, _ => match x with
      | .obj j => (match M[j]? with
        | some (.dK kvs) => (match strK kvs with
          | some ns => if ns.length < 64 then newL ((sortS ns).map D.str) M else .bad
          | none => match intK kvs with
            | some ns => if ns.length < 64 then newL ((sortI ns).map D.int) M else .bad
            | none => .bad)
        | _ => .bad)
      | _ => .bad)
  | _ => .bad
theorem c_sorted (hc : X.calm = true) : CD X T (.builtin "sorted") gSorted := cr_imp (cr_or (cr_or cr_sortedS cr_sorted) (cr_or (call_sortedD hc) (call_sortedDI hc))) fun xs H Q ⟨W, rho, M, ds, r, rv, h⟩ => by
  unfold gSorted at h
  split at h
  · rename_i x
    obtain ⟨v, rfl, rx⟩ := reps_one rv
    split at h
    · rename_i ys ht hs
      obtain ⟨q, vs, rfl, h1, h2⟩ := seq_l r rx hs ht
      split at h
      · rename_i ns hn
        split at h
        · rename_i h64
          have e := strsD_eq hn
          subst e
          rw [reps_strs h2] at h1
          refine .inl (.inl ⟨q, ns, rfl, h1, h64, fun zs l hp hu hl => ?_⟩)
          rw [up_eq (hp.trans (sortS_perm ns).symm) (sortedS_up hu) (sortS_up ns)]
          exact let z := newL_ok r (reps_mapS _) h l hl; z.1 _ z.2
        · exact h.elim
      · split at h
        · rename_i ns hn
          split at h
          · rename_i h64
            have e := intsD_eq hn
            subst e
            rw [reps_ints h2] at h1
            refine .inl (.inr ⟨q, ns, rfl, h1, h64, fun zs l hp hu hl => ?_⟩)
            rw [upI_eq (hp.trans (sortI_perm ns).symm) hu (sortI_up ns)]
            exact let z := newL_ok r (reps_mapI _) h l hl; z.1 _ z.2
          · exact h.elim
        · exact h.elim
    · split at h
      · split at h
        · rename_i hm
          obtain ⟨q, ho, rfl, _, h1, vs, rfl, h2⟩ := obj_m r rx hm
          split at h
          · rename_i ns hn
            split at h
            · rename_i h64
              refine .inr (.inl ⟨q, vs, ns, rfl, .inl h1, strK_eq h2 hn, h64, fun zs l hp hu hl => ?_⟩)
              rw [up_eq (hp.trans (sortS_perm ns).symm) (sortedS_up hu) (sortS_up ns)]
              exact let z := newL_ok r (reps_mapS _) h l hl; z.1 _ z.2
            · exact h.elim
          · split at h
            · rename_i ns hn
              split at h
              · rename_i h64
                refine .inr (.inr ⟨q, vs, ns, rfl, .inl h1, intK_eq h2 hn, h64, fun zs l hp hu hl => ?_⟩)
                rw [upI_eq (hp.trans (sortI_perm ns).symm) hu (sortI_up ns)]
                exact let z := newL_ok r (reps_mapI _) h l hl; z.1 _ z.2
              · exact h.elim
            · exact h.elim
        · exact h.elim
      · exact h.elim
  · exact h.elim
end
end Tr

set_option Elab.async false
set_option linter.all false
set_option maxRecDepth 100000
set_option maxHeartbeats 4000000
namespace Tr
open PySem PySem.Spec PyProof.Rows L2

section
variable {X : Cx} {T : List (Addr × Str)} {W : WX} {a b c e : Expr} {fa fb fc : EF} {pos p : Pos} {es : List Expr} {fr fk : AF} {ft fu : TF} {g : CF} {x : Str} {id Ty : String}
/-! ### plain tuples -/
def tTupK (t : TA) : TE := fun sg H Q => t sg H fun xs H1 => xs.length ≤ sizeLine ∧ ∀ (p : Addr) (o : Obj), H1 p = none → o.dict = none → Q (.ref p) (upd H1 p (.frz o (.tup xs)))
theorem pe_tupK {x1} {t : TA} (h : PA X es t) : PE X (.Tuple es x1 pos) (tTupK t) := by
  refine ⟨fun pins s sg H Q I hq => ?_⟩
  refine wpAny_Tuple_spliced (thn (h.run pos pins s sg H _ I hq) fun us s1 ⟨xs, H1, I1, r, z, q⟩ => ⟨by rw [← r.length]; exact z, ?_⟩)
  have hf : H1 s1.heap.objs.size = none := I1.hok.fresh (Nat.le_refl _)
  refine ⟨.ref s1.heap.objs.size, upd H1 s1.heap.objs.size (.frz { cls := .type "tuple", data := .seq us.toArray } (.tup xs)), I1.laid (t' := s1.toks) (fun b u e => Heap.get?_push_of_some _ e) (Nat.le_refl _) ?_, rfl, q _ _ hf rfl⟩
  exact ⟨Heap.get?_push_size _ rfl, z, us, r, ⟨_, Heap.get?_push_size _ rfl, rfl, _, rfl⟩⟩
def eTupK (fr : AF) : EF := fun env M => (fr env M).bind fun ds M1 => if ds.length ≤ lim then .ok (.ktup ds) M1 else .bad
theorem d_tupK {x1} (h : DA X T W es fr) : DE X T W (.Tuple es x1 pos) (eTupK fr) := pe_imp (pe_tupK h) fun sg H Q ⟨rho, env, M, r, e, h⟩ =>
  ⟨rho, env, M, r, e, Fin.mono (Fin.bind h) fun ds r1 M1 H1 p1 q1 h1 vs rv => by
    split at h1
    · rename_i hl
      refine ⟨by rw [lim_eq, reps_len rv]; exact hl, fun p o hp hd => ?_⟩
      exact h1 r1 _ (Post.side hp) (q1.side hp) _ ⟨p, vs, rfl, .inr ⟨o, upd_same, hd⟩, q1.reps (Post.side hp) rv⟩
    · exact h1.elim⟩
theorem call_tupleK : CallR X (.type "tuple") (fun xs H Q => ∃ p ys, xs = [.ref p] ∧ SqL X.K H p ys ∧ ∀ (l : Addr) (o : Obj), H l = none → o.dict = none → Q (.ref l) (upd H l (.frz o (.tup ys)))) := by
  intro pins s sg H xs us Q I r h
  obtain ⟨p, ys, rfl, hq, q⟩ := h
  obtain ⟨u, rfl, rx⟩ := vals1 r
  cases rx
  obtain ⟨its, r', pl, hz⟩ := I.list hq
  have hlen := r'.length
  refine call_tuple_list pl.isList (fun h' kp => ?_) (by simp only [List.size_toArray] <;> omega)
  have I1 : Inv X pins sg H { s with heap := h' } := I.kept (t' := s.toks) kp
  have I2 : Inv X pins sg (upd H h'.objs.size (.frz { cls := .type "tuple", data := .seq its.toArray } (.tup ys))) { s with heap := h'.push { cls := .type "tuple", data := .seq its.toArray } } :=
    I1.laid (t' := s.toks) (fun b o e => Heap.get?_push_of_some _ e) (Nat.le_refl _) (show ObjOk X.prog X.w _ _ _ (.frz _ (.tup ys)) from ⟨Heap.get?_push_size _ rfl, hz, its, r', IsTup.new _ _⟩)
  exact ⟨.ref h'.objs.size, _, I2, rfl, q _ _ (I1.hok.fresh (Nat.le_refl _)) rfl⟩
def gTupleK : CF := fun xs M => match xs with
  | [x] => (match tupD x, seqD x M with
    | none, some ys => .ok (.ktup ys) M
    | _, _ => .bad)
  | _ => .bad
theorem c_tupleK : CD X T (.type "tuple") gTupleK := cr_imp call_tupleK fun xs H Q ⟨W, rho, M, ds, r, rv, h⟩ => by
  unfold gTupleK at h
  split at h
  · rename_i x
    obtain ⟨v, rfl, rx⟩ := reps_one rv
    split at h
    · rename_i ys ht hs
      obtain ⟨q, vs, rfl, h1, h2⟩ := seq_l r rx hs ht
      exact ⟨q, vs, rfl, h1, fun l o hl hd => h _ _ (Post.side hl) (r.side hl) _ ⟨l, vs, rfl, .inr ⟨o, upd_same, hd⟩, r.reps (Post.side hl) h2⟩⟩
    · exact h.elim
  · exact h.elim
/-! ### dict(pairs) -/
def pairD (d : D) : Option (Key × D) := match tupD d with
  | some [k, v] => (keyD k).map fun k => (k, v)
  | _ => none
def pairsD : List D → Option (List (Key × D))
  | [] => some []
  | x :: xs => match pairD x, pairsD xs with
    | some a, some r => some (a :: r)
    | _, _ => none
def mergeD (kvs : List (Key × D)) : List (Key × D) := kvs.foldl (fun acc p => putG acc p.1 p.2) []
theorem pairsD_ok {G : Gam} {rho : List Addr} {H : Hp} : ∀ {ds : List D} {vs : List V} {kvs : List (Key × D)}, Reps G.K rho H ds vs → pairsD ds = some kvs →
    ∃ (ps : List Addr) (kws : List (Key × V)), vs = ps.map V.ref ∧ Paired (fun p kv => SqT G.K H p [kV kv.1, kv.2]) ps kws ∧ RepKV G.K rho H kvs kws
  | [], vs, kvs, h, e => by
    cases e
    exact ⟨[], [], h, .nil, rfl⟩
  | x :: xs, vs, kvs, h, e => by
    obtain ⟨v, r, rfl, h1, h2⟩ := h
    have e' : (match pairD x, pairsD xs with | some a, some r => some (a :: r) | _, _ => none) = some kvs := e
    split at e'
    · rename_i pr kr ea er
      cases e'
      obtain ⟨ps, kws, rfl, i2, i3⟩ := pairsD_ok h2 er
      unfold pairD at ea
      split at ea
      · rename_i kd vd ht
        obtain ⟨k, ek, e2⟩ := Option.map_eq_some_iff.mp ea
        subst e2
        obtain ⟨q, ws, rfl, h3, h4⟩ := tup_sq h1 ht
        obtain ⟨v1, v2, rfl, h5, h6⟩ := reps_two h4
        have := keyD_rep h5 ek
        subst this
        exact ⟨q :: ps, (k, v2) :: kws, rfl, .cons h3 i2, ⟨v2, kws, rfl, h6, i3⟩⟩
      · cases ea
    · cases e'
theorem merge_rep {K : PySem.W.Frag} {rho : List Addr} {H : Hp} : ∀ {kvs : List (Key × D)} {kws : List (Key × V)} {acc : List (Key × D)} {bcc : List (Key × V)}, RepKV K rho H kvs kws → RepKV K rho H acc bcc →
    RepKV K rho H (kvs.foldl (fun acc p => putG acc p.1 p.2) acc) (kws.foldl (fun acc kv => putK acc kv.1 kv.2) bcc)
  | [], kws, acc, bcc, h, h' => by rw [show kws = [] from h]; exact h'
  | (k, d) :: kvs, kws, acc, bcc, h, h' => by
    obtain ⟨v, r, rfl, h1, h2⟩ := h
    exact merge_rep (kvs := kvs) (kws := r) (acc := putG acc k d) (bcc := putK bcc k v) h2 (kv_put k h1 h')
def newO (m : MO) (M : Mem) : R D := .ok (.obj M.length) (M ++ [m])
theorem newO_ok {G : Gam} {W : XK} {rho : List Addr} {M : Mem} {H : Hp} {m : MO} {ho : HO} {k : D → List Addr → Mem → Hp → Prop} (r : RelH G rho M H) (h : RepO G.K rho H m ho) (q : Fin G W rho H (newO m M) k) : ∀ l, H l = none → k (.obj M.length) (rho ++ [l]) (M ++ [m]) (upd H l ho) ∧ Rep G.K (rho ++ [l]) (upd H l ho) (.obj M.length) (.ref l) :=
  fun l hl => ⟨q _ _ (Post.new hl) (r.new hl h), l, by rw [r.len]; simp, rfl⟩
/-- what dict(x) walks -/
def gDict : CF := fun xs M => match xs with
  | [.ktup ys] => (match pairsD ys with
    | some kvs => newO (.dK (mergeD kvs)) M
    | none => .bad)
  | [.obj j] => (match M[j]? with
    | some (.lst ys) => (match pairsD ys with
      | some kvs => newO (.dK (mergeD kvs)) M
      | none => .bad)
    | some (.dK kvs) => newO (.dK kvs) M
    | _ => .bad)
  | _ => .bad
theorem pairs_at {pins : List (Addr × Obj)} {sg : L2.St} {H : Hp} {s : Shared} (I : Inv X pins sg H s) : ∀ {ps : List Addr} {kvs : List (Key × V)}, Paired (fun p kv => SqT X.K H p [kV kv.1, kv.2]) ps kvs →
    ∃ (prs : List (Key × Value)) (us : List (Value × Value)), KV kvs prs ∧ us.length = ps.length ∧ prs.length = ps.length ∧ ∀ (j : Nat) (k v : Value), us[j]? = some (k, v) → ∃ (b : Addr) (q : Key), ps[j]? = some b ∧ s.heap.IsTuple b #[k, v] ∧ prs[j]? = some (q, v) ∧ (mixKind X.prog X.w).is q k = true
  | _, _, .nil => ⟨[], [], .nil, rfl, rfl, fun j k v e => by simp at e⟩
  | _, _, .cons (a := p) (b := kv) h t => by
    obtain ⟨prs, us, r, l1, l2, hp⟩ := pairs_at I t
    obtain ⟨its, rv, ht, _⟩ := I.tuple h
    obtain ⟨u, y, ei, ru, ry⟩ := vals2 rv
    subst ei
    refine ⟨(kv.1, y) :: prs, (u, y) :: us, .cons ⟨rfl, ry⟩ r, by simp [l1], by simp [l2], fun j k v e => ?_⟩
    cases j with
    | zero =>
      have e' : (u, y) = (k, v) := Option.some.inj e
      cases e'
      exact ⟨p, kv.1, rfl, ht, rfl, kV_is (P := X.prog) (w := X.w) ru⟩
    | succ j =>
      obtain ⟨b, q, e1, e2, e3, e4⟩ := hp j k v (by simpa using e)
      exact ⟨b, q, by simpa using e1, e2, by simpa using e3, e4⟩
theorem call_dictT (hc : X.calm = true) : CallR X (.type "dict") (fun xs H Q => ∃ (a : Addr) (ps : List Addr) (kvs : List (Key × V)), xs = [.ref a] ∧ KPat X.K H a (ps.map V.ref) ∧ Paired (fun p kv => SqT X.K H p [kV kv.1, kv.2]) ps kvs ∧
    ∀ p, H p = none → Q (.ref p) (upd H p (.dK (mergeK [] kvs)))) := by
  intro pins s sg H xs us Q I r q
  obtain ⟨a, ps, kvs, ex, hq, hp, q⟩ := q
  subst ex
  obtain ⟨u, eu, rx⟩ := vals1 r
  subst eu
  cases rx
  obtain ⟨prs, pv, rel, l1, l2, hpr⟩ := pairs_at I hp
  have plain : ∃ its : List Value, Vals (ps.map V.ref) its ∧ PlainSeq "tuple" s.heap a its.toArray ∧ its.length ≤ sizeLine := by
    rcases hq with ⟨o, its, n, h1, h2, h3, h4, h5, h6⟩ | ⟨o, h1, h2⟩
    · exact ⟨its.toList, h6, ⟨o, n, I.kIn a o h1, h2, h3, by simpa using h4⟩, by simpa using h5⟩
    · obtain ⟨e, z, its, rv, o', e', hcl, n, hd⟩ := (show ObjOk X.prog X.w H s.heap a (.frz o (.tup (ps.map V.ref))) from I.hok a _ h1)
      rw [e] at e'
      cases e'
      exact ⟨its, rv, ⟨o, n, e, hcl, h2, hd⟩, by rw [← rv.length]; exact z⟩
  obtain ⟨its, rv, pl, hz⟩ := plain
  have ei := refs_at rv
  subst ei
  refine PySem.call_dict_pairs (knd := mixKind X.prog X.w) (kvs := prs) (PairArg.tuple a (ps.map Value.ref).toArray (fun j => ps.getD j 0) pv) (I.ok.hd hc) ⟨pl, by simp [l1], fun j k v e => ?_⟩ ⟨by rw [l2, l1], fun i k v e => ?_⟩ (by rw [l1]; simpa using hz) fun h' tk hd' k => ?_
  · obtain ⟨b, q, e1, e2, _⟩ := hpr j k v e
    have hb : ps.getD j 0 = b := by simp [List.getD, e1]
    show _ ∧ PairAt s.heap (ps.getD j 0) k v
    rw [hb]
    exact ⟨by simp [e1], .inl e2⟩
  · obtain ⟨b, q, e1, e2, e3, e4⟩ := hpr i k v e
    exact ⟨q, e3, e4⟩
  · have hm : (s.heap.objs.size == sysModules) = false := beq_eq_false_iff_ne.mpr (Nat.ne_of_gt I.big)
    have hlen : (mergeK [] kvs).length ≤ sizeLine := by
      refine Nat.le_trans (length_mergeK kvs []) ?_
      rw [List.length_nil, Nat.zero_add, rel.length, l2]
      simpa using hz
    exact ⟨.ref s.heap.objs.size, upd H s.heap.objs.size (.dK (mergeK [] kvs)), I.laid (t' := tk) (fun b o e => k b o (by simp) e) (Nat.le_refl _) (show ObjOk X.prog X.w _ _ _ (.dK (mergeK [] kvs)) from ⟨hlen, hm, merged [] prs, KV.merge rel .nil, hd'⟩), rfl, q _ (I.hok.fresh (Nat.le_refl _))⟩
theorem c_dict (hc : X.calm = true) : CD X T (.type "dict") gDict := cr_imp (cr_or (call_dictT hc) (cr_or (call_dictP hc) call_dictD)) fun xs H Q ⟨W, rho, M, ds, r, rv, h⟩ => by
  unfold gDict at h
  split at h
  · rename_i ys
    obtain ⟨v, rfl, rx⟩ := reps_one rv
    split at h
    · rename_i kvs hk
      obtain ⟨q, vs, rfl, h1, h2⟩ := rx
      obtain ⟨ps, kws, rfl, h3, h4⟩ := pairsD_ok (G := gm X T) h2 hk
      exact .inl ⟨q, ps, kws, rfl, h1, h3, fun l hl => let z := newO_ok (G := gm X T) (m := .dK _) r ⟨_, rfl, merge_rep (acc := []) (bcc := []) h4 rfl⟩ h l hl; z.1 _ z.2⟩
    · exact h.elim
  · rename_i j
    obtain ⟨v, rfl, rx⟩ := reps_one rv
    split at h
    · rename_i ys hm
      split at h
      · rename_i kvs hk
        obtain ⟨q, vs, rfl, _, h1, h2⟩ := r.lst rx hm
        obtain ⟨ps, kws, rfl, h3, h4⟩ := pairsD_ok (G := gm X T) h2 hk
        exact .inr (.inl ⟨q, ps, kws, rfl, SqL.of h1, h3, fun l hl => let z := newO_ok (G := gm X T) (m := .dK _) r ⟨_, rfl, merge_rep (acc := []) (bcc := []) h4 rfl⟩ h l hl; z.1 _ z.2⟩)
      · exact h.elim
    · rename_i kvs hm
      obtain ⟨q, ho, rfl, _, h1, vs, rfl, h2⟩ := obj_m r rx hm
      exact .inr (.inr ⟨q, vs, rfl, .inl h1, fun l hl => let z := newO_ok (G := gm X T) (m := .dK _) r ⟨_, rfl, h2⟩ h l hl; z.1 _ z.2⟩)
    · exact h.elim
  · exact h.elim
end
end Tr

set_option Elab.async false
set_option linter.all false
set_option maxRecDepth 100000
set_option maxHeartbeats 4000000
namespace Tr
open PySem PySem.Spec PyProof.Rows L2

section
variable {X : Cx} {T : List (Addr × Str)} {W : WX} {a b c e : Expr} {fa fb fc fo fi : EF} {pos p : Pos} {es : List Expr} {fr fk : AF} {ft fu : TF} {g : CF} {x : Str} {id Ty : String}
/-! ### isinstance -/
def kindD (d : D) (M : Mem) : Option String := match d with
  | .non => some "NoneType"
  | .bl _ => some "bool"
  | .int _ => some "int"
  | .str _ => some "str"
  | .tup _ => some "tuple"
  | .ktup _ => some "tuple"
  | .klst _ => some "list"
  | .obj j => (match M[j]? with
    | some (.lst _) => some "list"
    | some (.dK _) => some "dict"
    | some (.dT _) => some "dict"
    | some (.lkK _) => some "dict"
    | _ => none)
  | _ => none
theorem kindD_ok {G : Gam} {rho : List Addr} {M : Mem} {H : Hp} (r : RelH G rho M H) {d : D} {v : V} {n : String} (h : Rep G.K rho H d v) (e : kindD d M = some n) : TyX G.K H v (.type n) := by
  unfold kindD at e
  split at e
  · cases e; rw [show v = .non from h]; exact .base .non
  · cases e; rw [show v = .bl _ from h]; exact .base (.bl _)
  · cases e; rw [show v = .int _ from h]; exact .base (.int _)
  · cases e; rw [show v = .str _ from h]; exact .base (.str _)
  · cases e; obtain ⟨a, vs, rfl, h1, _⟩ := h; exact .base (.tup h1)
  · cases e
    obtain ⟨a, vs, rfl, h1, _⟩ := h
    rcases h1 with ⟨o, its, m, h1, h2, _⟩ | ⟨o, h1, _⟩
    · exact .kTuple h1 h2
    · exact .fTuple h1
  · cases e
    obtain ⟨a, vs, rfl, h1, _⟩ := h
    rcases h1 with ⟨o, h1⟩ | ⟨o, its, m, h1, h2, _⟩
    · exact .base (.frz h1)
    · exact .kList h1 h2
  · split at e
    · rename_i hm; cases e; obtain ⟨q, vs, rfl, _, h1, _⟩ := r.lst h hm; exact .base (.lst h1)
    · rename_i hm; cases e; obtain ⟨q, ho, rfl, _, h1, vs, rfl, _⟩ := obj_m r h hm; exact .base (.dK h1)
    · rename_i hm; cases e; obtain ⟨q, ho, rfl, _, h1, vs, rfl, _⟩ := obj_m r h hm; exact .base (.dT h1)
    · rename_i hm; cases e; obtain ⟨q, ho, rfl, _, h1, o, vs, rfl, _⟩ := obj_m r h hm; exact .fDict h1
    · cases e
  · cases e
def subT (t n : String) : Option Bool := if ["NoneType", "bool", "int", "str", "tuple", "list", "dict"].contains t && ["bool", "int", "str", "tuple", "list", "dict"].contains n then some (t == n || (t == "bool" && n == "int")) else none
theorem subT_all : ∀ t ∈ ["NoneType", "bool", "int", "str", "tuple", "list", "dict"], ∀ n ∈ ["bool", "int", "str", "tuple", "list", "dict"], kitB t n = some (t == n || (t == "bool" && n == "int")) := by decide +kernel
def gIsi : CF := fun xs M => match xs with
  | [x, .ty n] => (match kindD x M with
    | some t => (match subT t n with
      | some b => .ok (.bl b) M
      | none => .bad)
    | none => .bad)
  | _ => .bad
theorem c_isi : CD X T (.builtin "isinstance") gIsi := cr_imp call_isi fun xs H Q ⟨W, rho, M, ds, r, rv, h⟩ => by
  unfold gIsi at h
  split at h
  · rename_i x n
    obtain ⟨v, u, rfl, rx, ru⟩ := reps_two rv
    split at h
    · rename_i t ht
      split at h
      · rename_i b hb
        have k := kindD_ok r rx ht
        unfold subT at hb
        split at hb
        · rename_i hc
          rw [Bool.and_eq_true] at hc
          cases hb
          exact ⟨v, u, .type t, .type n, _, rfl, by rw [show u = .ty n from ru]; exact .ty n, k, kit_ty (subT_all t (by simpa using hc.1) n (by simpa using hc.2)), h.here r _ rfl⟩
        · cases hb
      · exact h.elim
    · exact h.elim
  · exact h.elim
/-! ### repr of data -/
def okP (p : PyData) : Bool := !p.hasDict && p.showable && decide (p.depth ≤ 32) && decide (p.shown.length ≤ lim)
def gRepr : CF := fun xs M => match xs with
  | [x] => (match pd M x with
    | some (.list ps) => if okP (.list ps) = true then .ok (.str (PyData.shown (.list ps))) M else .bad
    | some (.tuple ps) => if okP (.tuple ps) = true then .ok (.str (PyData.shown (.tuple ps))) M else .bad
    | some (.int i) => if i.natAbs.log2 < 1920 then .ok (.str (toString i)) M else .bad
    | _ => .bad)
  | _ => .bad
theorem call_reprD (hg : X.A.guards = some []) (hu : X.A.units + 64 < cLine) : CallR X (.builtin "repr") (fun xs H Q => ∃ (a : Addr) (p : PyData), xs = [.ref a] ∧ Dp X.K H (.ref a) p ∧ okP p = true ∧ Q (.str p.shown) H) := by
  intro pins s sg H xs us Q I rv h
  obtain ⟨a, p, rfl, hp, ok, q⟩ := h
  obtain ⟨u, rfl, rx⟩ := vals1 rv
  cases rx
  obtain ⟨as, rd⟩ := Dp.reads I p (.ref a) (.ref a) hp rfl
  unfold okP at ok
  simp only [Bool.and_eq_true, decide_eq_true_eq, Bool.not_eq_true'] at ok
  exact repr_of_reads' rd ok.1.1.2 (PyData.noDict_hsm ok.1.1.1) hg (by have := ok.1.2; omega) (fun _ _ e => e) (fun h' u tk hk => ⟨.str p.shown, H, I.kept hk, ⟨_, rfl⟩, q⟩) (by rw [lim_eq]; exact ok.2)
theorem c_repr (hg : X.A.guards = some []) (hu : X.A.units + 64 < cLine) : CD X T (.builtin "repr") gRepr := cr_imp (cr_or (call_reprD hg hu) SkE.call_repr_int) fun xs H Q ⟨W, rho, M, ds, r, rv, h⟩ => by
  unfold gRepr at h
  split at h
  · rename_i x
    obtain ⟨v, rfl, rx⟩ := reps_one rv
    split at h
    · rename_i ps hp
      split at h
      · rename_i ok
        have d := pd_ok r rx hp
        have q := h.here r (.str (PyData.shown (.list ps))) rfl
        cases d with
        | lst h1 h2 => exact .inl ⟨_, _, rfl, .lst h1 h2, ok, q⟩
      · exact h.elim
    · rename_i ps hp
      split at h
      · rename_i ok
        have d := pd_ok r rx hp
        have q := h.here r (.str (PyData.shown (.tuple ps))) rfl
        cases d with
        | tup h1 h2 => exact .inl ⟨_, _, rfl, .tup h1 h2, ok, q⟩
      · exact h.elim
    · rename_i i hp
      split at h
      · rename_i hi
        have d := pd_ok r rx hp
        cases d
        exact .inr ⟨i, rfl, hi, h.here r _ rfl⟩
      · exact h.elim
    · exact h.elim
  · exact h.elim
/-! ### int, str -/
def gInt1 : CF := fun xs M => match xs with
  | [.int i] => .ok (.int i) M
  | [.bl k] => .ok (.int (if k then 1 else 0)) M
  | [.str y] => (match PySem.intText? y with
    | some n => if y.length ≤ 640 then .ok (.int n) M else .bad
    | none => .bad)
  | _ => .bad
theorem c_int : CD X T (.type "int") gInt1 := cr_imp (cr_or call_int1 call_int_str) fun xs H Q ⟨W, rho, M, ds, r, rv, h⟩ => by
  unfold gInt1 at h
  split at h
  · obtain ⟨v, rfl, rx⟩ := reps_one rv
    rw [show v = _ from rx]
    exact .inl (.inl ⟨_, rfl, h.here r _ rfl⟩)
  · obtain ⟨v, rfl, rx⟩ := reps_one rv
    rw [show v = _ from rx]
    exact .inl (.inr ⟨_, rfl, h.here r _ rfl⟩)
  · obtain ⟨v, rfl, rx⟩ := reps_one rv
    rw [show v = _ from rx]
    split at h
    · rename_i n hn
      split at h
      · rename_i hl
        exact .inr ⟨_, n, rfl, hn, hl, h.here r _ rfl⟩
      · exact h.elim
    · exact h.elim
  · exact h.elim
def gStr1 : CF := fun xs M => match xs with
  | [.int i] => if i.natAbs.log2 < 1920 then .ok (.str (toString i)) M else .bad
  | [.str y] => .ok (.str y) M
  | _ => .bad
theorem c_str : CD X T (.type "str") gStr1 := cr_imp (cr_or call_str_int SkE.call_str_str) fun xs H Q ⟨W, rho, M, ds, r, rv, h⟩ => by
  unfold gStr1 at h
  split at h
  · obtain ⟨v, rfl, rx⟩ := reps_one rv
    rw [show v = _ from rx]
    split at h
    · rename_i hi
      exact .inl ⟨_, rfl, hi, h.here r _ rfl⟩
    · exact h.elim
  · obtain ⟨v, rfl, rx⟩ := reps_one rv
    rw [show v = _ from rx]
    exact .inr ⟨_, rfl, h.here r _ rfl⟩
  · exact h.elim
/-! ### a dict of the module, keys texts -/
abbrev KTab := List (Str × D)
def ktGet (t : KTab) (x : Str) : Option D := t.lookup x
/-- the dict at d holds t -/
structure KTabOk (K : PySem.W.Frag) (w : World) (d : Addr) (t : KTab) : Prop where
  ex : ∃ es n, KDict K w d es n
  get : ∀ x, match ktGet t x with
    | some y => ∃ u v, PySem.W.nsIn K d x = some (some u) ∧ RelV v u ∧ RepC K y v
    | none => PySem.W.nsIn K d x = some none
/-- NAME.get(e, f) -/
def eKGet (t : KTab) (fa fb : EF) : EF := fun env M => (fa env M).bind fun x M1 => (fb env M1).bind fun y M2 => match x with
  | .str z => .ok ((ktGet t z).getD y) M2
  | _ => .bad
def tKGet (d : Addr) (t : KTab) (K : PySem.W.Frag) (ty tx : TE) : TE := fun sg H Q => ty sg H fun y H2 => tx sg H2 fun z H3 => ∃ k, y = .str k ∧ (∀ u v, PySem.W.nsIn K d k = some (some u) → RelV v u → Q v H3) ∧ (PySem.W.nsIn K d k = some none → Q z H3) ∧ ∃ o, PySem.W.nsIn K d k = some o ∧ ∀ u, o = some u → ∃ v, RelV v u
theorem pe_kget {t : KTab} {d : Addr} {apos cpos np : Pos} {ty tx : TE} (D : ∃ es n, KDict X.K X.w d es n) (hg : Gl X x) (hm : X.mg x = some (.ref d)) (he : PE X a ty) (hf : PE X b tx) (m : M2 X (.Name x np) "get" apos a b cpos) (hdb : (x == ("__debug__" : Str)) = false := by decide) :
    PE X (.Call (.Attribute (.Name x np) "get" apos) [a, b] [] cpos) (tKGet d t X.K ty tx) := by
  obtain ⟨es, n, D⟩ := D
  refine ⟨fun pins s sg H Q I h => ?_⟩
  refine wpAny_Call_method m.base m.few m.line PySem.F.plainAttrs_dict PySem.F.slot_dict_get PySem.F.type_dict_get ?_
  refine ld_glob I hg hm ?_ hdb
  refine ⟨kd_type D I, fun b' e' => ?_, ?_⟩
  · cases e'
    exact ⟨_, I.kIn _ _ D.at_, rfl⟩
  rw [m.trees]
  refine Calls.callWith_builtin rfl (Calls.evalArgs_plain (Calls.spliced_cons (thn (he.run pins s sg H _ I h) fun iv s2 ⟨y, H2, I2, ry, q2⟩ =>
    Calls.spliced_cons (thn (hf.run pins s2 sg H2 _ I2 q2) fun fv s3 ⟨z, H3, I3, rz, k, ey, q3, q4, o, ho, hv⟩ => Calls.spliced_nil ?_))))
  subst ey
  obtain ⟨tk, rfl⟩ := ry
  refine call_meetsIn PySem.F.slot_dict_get (kd_type D I3) PySem.F.entry_dict_get (PySem.F.args_dict_get_3 _ _ _) (meets_dict_get_default (PySem.strKind X.prog X.w) d (PySem.strKind_is X.prog X.w k tk) D.low fv) ⟨_, PySem.W.mapOf_K (prog := X.prog) I3.kIn D.at_ D.lit, ?_⟩
  rw [PySem.W.find_K D.at_ ho]
  cases o with
  | none => exact ⟨z, H3, I3.tok _, rz, q4 ho⟩
  | some u =>
    obtain ⟨v, rv⟩ := hv u rfl
    exact ⟨v, H3, I3.tok _, rv, q3 u v ho rv⟩
theorem d_kget {t : KTab} {d : Addr} {apos cpos np : Pos} (D : KTabOk X.K X.w d t) (hg : Gl X x) (hm : X.mg x = some (.ref d)) (he : DE X T W a fa) (hf : DE X T W b fb) (m : M2 X (.Name x np) "get" apos a b cpos) (hdb : (x == ("__debug__" : Str)) = false := by decide) :
    DE X T W (.Call (.Attribute (.Name x np) "get" apos) [a, b] [] cpos) (eKGet t fa fb) := pe_imp (pe_kget (t := t) D.ex hg hm he hf m hdb) fun sg H Q ⟨rho, env, M, r, e, h⟩ =>
  ⟨rho, env, M, r, e, Fin.mono (Fin.bind h) fun d1 r1 M1 H1 p1 q1 h1 y ry => ⟨r1, env, M1, q1, e.post r p1, Fin.mono (Fin.bind h1) fun d2 r2 M2 H2 p2 q2 h2 z rz => by
    split at h2
    · rename_i k
      have hq := D.get k
      refine ⟨k, ry, ?_⟩
      split at hq
      · rename_i dd hd
        obtain ⟨u, v, e1, e2, e3⟩ := hq
        rw [hd] at h2
        refine ⟨fun u' v' e1' e2' => ?_, fun e1' => (by rw [e1] at e1'; cases e1'), _, e1, fun u' e => (by cases e; exact ⟨v, e2⟩)⟩
        rw [e1] at e1'
        cases e1'
        rw [e2'.inj e2]
        exact h2.here q2 v (e3 _ _)
      · rename_i hd
        rw [hd] at h2
        exact ⟨fun u' v' e1' _ => (by rw [hq] at e1'; cases e1'), fun _ => h2.here q2 z rz, none, hq, fun u e => by cases e⟩
    · exact h2.elim⟩⟩
end
end Tr

set_option Elab.async false
set_option linter.all false
set_option maxRecDepth 100000
set_option maxHeartbeats 4000000
namespace Tr
open PySem PySem.Spec PyProof.Rows L2

/-! ### what is walked -/
/-- n items at the most; nx i M: none if it goes wrong, some none at the end -/
structure ItD where
  n : Nat
  nx : Nat → Mem → Option (Option D)
def GoodIt (G : Gam) (rho0 : List Addr) (H0 : Hp) (J : It) (it : ItD) : Prop := ∀ (i : Nat) (rho : List Addr) (M : Mem) (H : Hp), Post rho0 H0 rho H → RelH G rho M H → match it.nx i M with
  | none => True
  | some none => J.stop i H
  | some (some d) => J.go i H ∧ ∀ x H', J.yld i H x H' → Post rho H rho H' ∧ RelH G rho M H' ∧ Rep G.K rho H' d x
abbrev IF := DEnv → Mem → R ItD
def dI (G : Gam) (W : WX) (f : IF) : TI := fun sg H R => ∃ rho env M, RelH G rho M H ∧ RepEnv G.K rho H env sg ∧ Fin G (fun c d H' => W c d sg H') rho H (f env M) fun it rho1 _ H1 => ∀ J, GoodIt G rho1 H1 J it → R J H1
abbrev DI (X : Cx) (T : List (Addr × Str)) (W : WX) (tg e : Expr) (f : IF) : Prop := PI X tg e (dI (gm X T) W f)
theorem pi_imp {X : Cx} {tg e : Expr} {t t' : TI} (h : PI X tg e t) (i : ∀ sg H R, t' sg H R → t sg H R) : PI X tg e t' := ⟨fun pins s sg H R I q => h.run pins s sg H R I (i sg H R q)⟩
section
variable {X : Cx} {T : List (Addr × Str)} {W : WX} {a b c e tg : Expr} {fa fb fc fo fi : EF} {pos p : Pos} {es : List Expr} {fr fk : AF} {ft fu : TF} {x : Str} {id Ty : String}
def iSeqK (K : PySem.W.Frag) (tl : TE) : TI := fun sg H R => tl sg H fun x H1 => ∃ a xs, x = .ref a ∧ ((SqL K H1 a xs ∧ R (Itl K a) H1) ∨ (SqT K H1 a xs ∧ R (Itt K a) H1))
theorem pi_seqK {tl : TE} (hl : PE X e tl) : PI X tg e (iSeqK X.K tl) := by
  refine ⟨fun pins s sg H R I h => ?_⟩
  refine thn (hl.run pins s sg H _ I h) fun v s1 ⟨x, H1, I1, r1, q1⟩ => ?_
  obtain ⟨a, xs, e, q1⟩ := q1
  subst e
  cases r1
  have fresh : ∀ b ∈ [s1.heap.objs.size], FpOk X pins H1 b := fun b hb => by
    rw [List.mem_singleton.mp hb]
    exact I1.fpOk (Nat.le_refl _) (I1.hok.fresh (Nat.le_refl _))
  have keep : ∀ o, Inv X pins sg H1 { s1 with heap := s1.heap.push o } := fun o => I1.kept (t' := s1.toks) fun b u e => Heap.get?_push_of_some _ e
  rcases q1 with ⟨hq, q⟩ | ⟨hq, q⟩
  · obtain ⟨its, rv, p, hz⟩ := I1.list hq
    exact wpAny_pyIter_list p.isList ⟨s1.heap.objs.size, [s1.heap.objs.size], _, _, H1, rfl, keep _, turn_list a _, ⟨_, Heap.get?_push_size _ rfl, rfl, rfl⟩, fresh, q⟩
  · obtain ⟨its, rv, p, hz⟩ := I1.tuple hq
    exact wpAny_pyIter_tuple (show s1.heap.IsTuple a its.toArray from p) ⟨s1.heap.objs.size, [s1.heap.objs.size], _, _, H1, rfl, keep _, turn_tuple a _, ⟨_, Heap.get?_push_size _ rfl, rfl, rfl⟩, fresh, q⟩
/-- the items of a list or tuple -/
def itS (d : D) (n : Nat) : ItD := ⟨n, fun i M => match seqD d M with
  | some xs => (match xs[i]? with
    | some x => some (some x)
    | none => some none)
  | none => none⟩
def iSeq (fa : EF) : IF := fun env M => (fa env M).bind fun d M1 => match seqD d M1 with
  | some xs => .ok (itS d xs.length) M1
  | none => .bad
theorem sqL_post {G : Gam} {rho : List Addr} {M : Mem} {H : Hp} (r : RelH G rho M H) {d : D} {v : V} {xs : List D} (h : Rep G.K rho H d v) (e : seqD d M = some xs) (n : tupD d = none) : ∃ p vs, v = .ref p ∧ SqL G.K H p vs ∧ Reps G.K rho H xs vs := seq_l r h e n
theorem d_iseq (ha : DE X T W e fa) : DI X T W tg e (iSeq fa) := pi_imp (pi_seqK ha) fun sg H R ⟨rho, env, M, r, e, h⟩ =>
  ⟨rho, env, M, r, e, Fin.mono (Fin.bind h) fun d r1 M1 H1 p1 q1 h1 v rv => by
    split at h1
    · rename_i xs hx
      have go := h1.here q1
      cases ht : tupD d with
      | some ys =>
        obtain ⟨a, vs, rfl, s1, s2⟩ := tup_sq rv ht
        refine ⟨a, vs, rfl, .inr ⟨s1, go _ fun i r2 M2 H2 p2 q2 => ?_⟩⟩
        have rv2 := q1.rep p2 rv
        obtain ⟨a', ws, ea, s3, s4⟩ := tup_sq rv2 ht
        cases ea
        have hs : seqD d M2 = some ys := by
          unfold tupD at ht
          split at ht <;> first | (cases ht; rfl) | cases ht
        cases hi : ys[i]? with
        | none =>
          have hn : (itS d xs.length).nx i M2 = some none := by simp only [itS, hs, hi]
          rw [hn]
          exact ⟨ws, s3, by rw [reps_len s4]; exact List.getElem?_eq_none_iff.mp hi⟩
        | some y =>
          obtain ⟨u, hu, ru⟩ := reps_get s4 hi
          have hn : (itS d xs.length).nx i M2 = some (some y) := by simp only [itS, hs, hi]
          rw [hn]
          refine ⟨⟨ws, u, s3, hu⟩, fun x H' hy => ?_⟩
          obtain ⟨e1, e2⟩ := hy
          subst e1
          have := e2 ws s3
          rw [hu] at this
          cases this
          exact ⟨Post.refl _ _, q2, ru⟩
      | none =>
        obtain ⟨a, vs, rfl, s1, s2⟩ := seq_l q1 rv hx ht
        refine ⟨a, vs, rfl, .inl ⟨s1, go _ fun i r2 M2 H2 p2 q2 => ?_⟩⟩
        have rv2 := q1.rep p2 rv
        cases hs : seqD d M2 with
        | none =>
          have hn : (itS d xs.length).nx i M2 = none := by simp only [itS, hs]
          rw [hn]
          trivial
        | some ys =>
          obtain ⟨a', ws, ea, s3, s4⟩ := seq_l q2 rv2 hs ht
          cases ea
          cases hi : ys[i]? with
          | none =>
            have hn : (itS d xs.length).nx i M2 = some none := by simp only [itS, hs, hi]
            rw [hn]
            exact ⟨ws, s3, by rw [reps_len s4]; exact List.getElem?_eq_none_iff.mp hi⟩
          | some y =>
            obtain ⟨u, hu, ru⟩ := reps_get s4 hi
            have hn : (itS d xs.length).nx i M2 = some (some y) := by simp only [itS, hs, hi]
            rw [hn]
            refine ⟨⟨ws, u, s3, hu⟩, fun x H' hy => ?_⟩
            obtain ⟨e1, e2⟩ := hy
            subst e1
            have := e2 ws s3
            rw [hu] at this
            cases this
            exact ⟨Post.refl _ _, q2, ru⟩
    · exact h1.elim⟩
def itR (lo : Int) (n : Nat) : ItD := ⟨n, fun i _ => if i < n then some (some (.int (lo + i))) else some none⟩
theorem itR_good {G : Gam} {rho : List Addr} {H : Hp} (lo : Int) (n : Nat) : GoodIt G rho H (Itr lo n) (itR lo n) := fun i r2 M2 H2 p2 q2 => by
  show match (if i < n then some (some (D.int (lo + i))) else some none) with | none => True | some none => _ | some (some d) => _
  by_cases h : i < n
  · rw [if_pos h]
    exact ⟨h, fun x H' hy => by
      obtain ⟨e1, e2⟩ := hy
      subst e1 e2
      exact ⟨Post.refl _ _, q2, rfl⟩⟩
  · rw [if_neg h]
    exact Nat.le_of_not_lt h
def r62 (i : Int) : Bool := decide (-(2 ^ 62) ≤ i) && decide (i < 2 ^ 62)
def iRng (fr : AF) : IF := fun env M => (fr env M).bind fun xs M1 => match xs with
  | [.int j] => if r62 j = true then .ok (itR 0 j.toNat) M1 else .bad
  | [.int i, .int j] => if r62 i = true ∧ r62 j = true then .ok (itR i (j - i).toNat) M1 else .bad
  | _ => .bad
theorem r62_ok {i : Int} (h : r62 i = true) : -(2 ^ 62) ≤ i ∧ i < 2 ^ 62 := by
  unfold r62 at h
  rw [Bool.and_eq_true] at h
  exact ⟨of_decide_eq_true h.1, of_decide_eq_true h.2⟩
def iRng1D (fr : AF) : IF := fun env M => (fr env M).bind fun xs M1 => match xs with
  | [.int j] => if r62 j = true then .ok (itR 0 j.toNat) M1 else .bad
  | _ => .bad
def iRng2D (fr : AF) : IF := fun env M => (fr env M).bind fun xs M1 => match xs with
  | [.int i, .int j] => if r62 i = true ∧ r62 j = true then .ok (itR i (j - i).toNat) M1 else .bad
  | _ => .bad
theorem d_irng1 (hg : Gl X "range") (hm : X.mg "range" = none) (ha : DA X T W [a] fr) (hs : starEach [a] X.env = [(false, eval a X.env)] := by rfl) : DI X T W tg (.Call (.Name "range" p) [a] [] pos) (iRng1D fr) := pi_imp (pi_range1 hg hm ha hs) fun sg H R ⟨rho, env, M, r, e, h⟩ =>
  ⟨rho, env, M, r, e, Fin.mono (Fin.bind h) fun ds r1 M1 H1 p1 q1 h1 vs rv => by
    split at h1
    · rename_i j
      split at h1
      · rename_i hj
        obtain ⟨v, rfl, rx⟩ := reps_one rv
        exact ⟨j, by rw [show v = .int j from rx], (r62_ok hj).1, (r62_ok hj).2, h1.here q1 _ (itR_good 0 _)⟩
      · exact h1.elim
    · exact h1.elim⟩
theorem d_irng2 (hg : Gl X "range") (hm : X.mg "range" = none) (ha : DA X T W [a, b] fr) (hs : starEach [a, b] X.env = [(false, eval a X.env), (false, eval b X.env)] := by rfl) (hs2 : starEach [b] X.env = [(false, eval b X.env)] := by rfl) : DI X T W tg (.Call (.Name "range" p) [a, b] [] pos) (iRng2D fr) := pi_imp (pi_range2 hg hm ha hs hs2) fun sg H R ⟨rho, env, M, r, e, h⟩ =>
  ⟨rho, env, M, r, e, Fin.mono (Fin.bind h) fun ds r1 M1 H1 p1 q1 h1 vs rv => by
    split at h1
    · rename_i i j
      split at h1
      · rename_i hj
        obtain ⟨v, u, rfl, rx, ru⟩ := reps_two rv
        exact ⟨i, j, by rw [show v = .int i from rx, show u = .int j from ru], ⟨(r62_ok hj.1).1, (r62_ok hj.1).2, (r62_ok hj.2).1, (r62_ok hj.2).2⟩, h1.here q1 _ (itR_good i _)⟩
      · exact h1.elim
    · exact h1.elim⟩
/-- zip of two lists -/
def itZ (d1 d2 : D) (n : Nat) : ItD := ⟨n, fun i M => match seqD d1 M, seqD d2 M with
  | some xs, some ys => (match xs[i]?, ys[i]? with
    | some x, some y => some (some (.tup [x, y]))
    | _, _ => some none)
  | _, _ => none⟩
def iZip (fr : AF) : IF := fun env M => (fr env M).bind fun ds M1 => match ds with
  | [d1, d2] => (match tupD d1, tupD d2, seqD d1 M1, seqD d2 M1 with
    | none, none, some xs, some _ => .ok (itZ d1 d2 xs.length) M1
    | _, _, _, _ => .bad)
  | _ => .bad
theorem d_izip {tpos : Pos} {elts : List Expr} {kk : Nat} (hg : Gl X "zip") (hm : X.mg "zip" = none) (ha : DA X T W [a, b] fr) (hs : starEach [a, b] X.env = (false, eval a X.env) :: starEach [b] X.env := by rfl) (hpl : (backTo pos (starEach [b] X.env)).any (·.1) = false := by rfl) :
    DI X T W (.Tuple elts kk tpos) (.Call (.Name "zip" p) [a, b] [] pos) (iZip fr) := pi_imp (RZ.pi_zipA hg hm ha hs hpl) fun sg H R ⟨rho, env, M, r, e, h⟩ =>
  ⟨rho, env, M, r, e, Fin.mono (Fin.bind h) fun ds r1 M1 H1 p1 q1 h1 vs rv => by
    split at h1
    · rename_i d1 d2
      split at h1
      · rename_i xs ys t1 t2 s1 s2
        obtain ⟨v, u, rfl, rx, ru⟩ := reps_two rv
        obtain ⟨pa, vs, rfl, l1, _⟩ := seq_l q1 rx s1 t1
        obtain ⟨pb, us, rfl, l2, _⟩ := seq_l q1 ru s2 t2
        refine ⟨pa, pb, vs, us, rfl, .inl ⟨l1, l2, h1.here q1 _ fun i r2 M2 H2 p2 q2 => ?_⟩⟩
        have ra := q1.rep p2 rx
        have rb := q1.rep p2 ru
        unfold itZ
        dsimp only
        split
        · trivial
        · rename_i hh
          split at hh
          · rename_i as bs e1 e2
            obtain ⟨_, ws, ea, m1, n1⟩ := seq_l q2 ra e1 t1
            cases ea
            obtain ⟨_, zs, eb, m2, n2⟩ := seq_l q2 rb e2 t2
            cases eb
            split at hh
            · cases hh
            · rename_i hn
              refine ⟨ws, zs, m1, m2, ?_⟩
              rw [reps_len n1, reps_len n2]
              cases g1 : as[i]? with
              | none => exact .inl (List.getElem?_eq_none_iff.mp g1)
              | some x =>
                cases g2 : bs[i]? with
                | none => exact .inr (List.getElem?_eq_none_iff.mp g2)
                | some y => exact (hn x y g1 g2).elim
          · cases hh
        · rename_i dd hh
          split at hh
          · rename_i as bs e1 e2
            obtain ⟨_, ws, ea, m1, n1⟩ := seq_l q2 ra e1 t1
            cases ea
            obtain ⟨_, zs, eb, m2, n2⟩ := seq_l q2 rb e2 t2
            cases eb
            split at hh
            · rename_i x y g1 g2
              cases hh
              obtain ⟨vx, hx, kx⟩ := reps_get n1 g1
              obtain ⟨vy, hy, ky⟩ := reps_get n2 g2
              refine ⟨⟨ws, zs, vx, vy, m1, m2, hx, hy⟩, fun v' H' ⟨T', x', y', e3, hT, e4, e5, e6⟩ => ?_⟩
              have := e5 ws m1
              rw [hx] at this
              cases this
              have := e6 zs m2
              rw [hy] at this
              cases this
              subst e3 e4
              exact ⟨Post.side hT, q2.side hT, T', _, rfl, upd_same, _, _, rfl, q2.rep (Post.side hT) kx, _, _, rfl, q2.rep (Post.side hT) ky, rfl⟩
            · cases hh
          · cases hh
      · exact h1.elim
    · exact h1.elim⟩

/-! ### for -/
def loopD (nx : Nat → Mem → Option (Option D)) (body : D → SF) : Nat → Nat → SF
  | 0, _ => fun _ _ => .bad
  | k + 1, i => fun env M => match nx i M with
    | none => .bad
    | some none => .ok (.nx, env) M
    | some (some d) => (body d env M).bind fun p M1 => match p.1 with
      | .nx => loopD nx body k (i + 1) p.2 M1
      | .ct => loopD nx body k (i + 1) p.2 M1
      | .bk => .ok (.nx, p.2) M1
      | _ => .ok p M1
def sFor (fi : IF) (ft : GF) (fb : SF) : SF := fun env M => (fi env M).st env fun it M1 => loopD it.nx (fun d env M => (ft d env M).no.bind fun env' M2 => fb env' M2) (it.n + 1) 0 env M1
theorem d_for {fi : IF} {gt : GF} {fb : SF} {vs : List Nat} {body : List Stmt} (hp : PassesOwn (model X.prog X.w) X.A X.env X.xe) (hc : X.calm = true) (hi : DI X T W tg e fi) (hg : DG X T vs tg gt) (hb : DSs X T W body fb)
    (hs : ∀ x, foldedSetIterable e X.env x = pure x := by intro _; rfl) : DS X T W (.For tg e body [] pos) (sFor fi gt fb) := ps_imp (ps_for hp hc hi hg hb hs) fun D' sg H ⟨rho, env, M, r, e, h⟩ =>
  ⟨rho, env, M, r, e, Fin.mono (Fin.st r e h) fun it r1 M1 H1 p1 q1 h1 J hJ => by
    refine ⟨fun i m sg2 H2 => ∃ r2 env2 M2, Post r1 H1 r2 H2 ∧ RelH (gm X T) r2 M2 H2 ∧ RepEnv X.K r2 H2 env2 sg2 ∧ Fin (gm X T) NoX r2 H2 (loopD it.nx (fun d env M => (gt d env M).no.bind fun env' M2 => fb env' M2) m i env2 M2) fun p rho' _ H' => Ends.of (gm X T) W D' p rho' H',
      ⟨it.n + 1, r1, env, M1, Post.refl _ _, q1, e.post r p1, h1⟩, ?_⟩
    rintro i m sg2 H2 ⟨r2, env2, M2, p2, q2, e2, h2⟩
    cases m with
    | zero => exact (show False from h2).elim
    | succ k =>
      have good := hJ i r2 M2 H2 p2 q2
      unfold loopD at h2
      cases hn : it.nx i M2 with
      | none =>
        rw [hn] at h2
        exact (show False from h2).elim
      | some o =>
        rw [hn] at h2 good
        cases o with
        | none => exact .inl ⟨good, h2.here q2 sg2 e2⟩
        | some d =>
          refine .inr ⟨good.1, fun sg' H' => ∃ r3 env3 M3, Post r1 H1 r3 H' ∧ RelH (gm X T) r3 M3 H' ∧ RepEnv X.K r3 H' env3 sg' ∧ Fin (gm X T) NoX r3 H' (loopD it.nx (fun d env M => (gt d env M).no.bind fun env' M2 => fb env' M2) k (i + 1) env3 M3) fun p rho' _ H' => Ends.of (gm X T) W D' p rho' H',
            fun sg' H' hN => ⟨k, Nat.lt_succ_self k, hN⟩, fun x H' hy => ?_⟩
          obtain ⟨p3, q3, rx⟩ := good.2 x H' hy
          have h3 := Fin.post (Fin.bind (Fin.bind h2)) p3
          refine ⟨r2, env2, M2, d, q3, e2.post q2 p3, rx, Fin.no (Fin.mono h3 fun env' r4 M4 H4 p4 q4 h4 sg4 e4 _ => ?_)⟩
          refine ⟨r4, env', M4, q4, e4, Fin.mono h4 fun pr r5 M5 H5 p5 q5 h5 => ?_⟩
          have pp : Post r1 H1 r5 H5 := p2.trans (p3.trans (p4.trans p5))
          obtain ⟨fl, env5⟩ := pr
          cases fl with
          | nx => exact fun sg5 e5 => ⟨r5, env5, M5, pp, q5, e5, h5⟩
          | ct => exact fun sg5 e5 => ⟨r5, env5, M5, pp, q5, e5, h5⟩
          | bk => exact fun sg5 e5 => h5.here q5 sg5 e5
          | rt d => exact h5.here q5
          | ex x => exact h5.here q5⟩
end
end Tr

set_option Elab.async false
set_option linter.all false
set_option maxRecDepth 100000
set_option maxHeartbeats 4000000
namespace Tr
open PySem PySem.Spec PyProof.Rows L2

/-! ### list comprehensions -/
def wipeD (env : DEnv) : List Nat → DEnv
  | [] => env
  | v :: vs => (wipeD env vs).set v none
/-- no exception within -/
abbrev WF : WX := fun _ _ _ _ => False
def lcD (nx : Nat → Mem → Option (Option D)) (vs : List Nat) (gt : GF) (ft : TF) (fe : EF) (j : Nat) : Nat → Nat → DEnv → Mem → R Unit
  | 0, _ => fun _ _ => .bad
  | k + 1, i => fun env M => match nx i M with
    | none => .bad
    | some none => .ok () M
    | some (some d) => (gt d (wipeD env vs) M).no.bind fun env2 M2 => (ft env2 M2).no.bind fun b M3 => if b = true then (fe env2 M3).no.bind fun y M4 => match M4[j]? with
        | some (.lst acc) => if acc.length < lim then lcD nx vs gt ft fe j k (i + 1) env (M4.set j (.lst (acc ++ [y]))) else .bad
        | _ => .bad
      else lcD nx vs gt ft fe j k (i + 1) env M3
def eLc (fi : IF) (vs : List Nat) (gt : GF) (ft : TF) (fe : EF) : EF := fun env M => (fi env M).bind fun it M1 => (lcD it.nx vs gt ft fe M1.length (it.n + 1) 0 env (M1 ++ [.lst []])).bind fun _ M2 => .ok (.obj M1.length) M2
def tfYes : TF := fun _ M => .ok true M
theorem wipe_get (sg : L2.St) : ∀ (vs : List Nat) (j : Nat), (L2.wipe sg vs)[j]? = if j ∈ vs then (if j < sg.length then some none else none) else sg[j]?
  | [], j => by simp [L2.wipe]
  | v :: vs, j => by
    unfold L2.wipe
    by_cases h : v = j
    · subst h
      rw [List.getElem?_set]
      simp [L2.wipe_length]
    · rw [List.getElem?_set_ne h, wipe_get sg vs j]
      simp [Ne.symm h]
theorem wipe_eq {sg sg' : L2.St} {vs ws : List Nat} (h : Out ws (L2.wipe sg vs) sg') (hs : ∀ i ∈ ws, i ∈ vs) : L2.wipe sg' vs = L2.wipe sg vs := by
  refine List.ext_getElem? fun j => ?_
  rw [wipe_get, wipe_get]
  have hl : sg'.length = sg.length := h.1.trans (L2.wipe_length sg vs)
  by_cases hj : j ∈ vs
  · rw [if_pos hj, if_pos hj, hl]
  · rw [if_neg hj, if_neg hj, h.2 j (fun z => hj (hs j z)), wipe_get, if_neg hj]
theorem wipeD_rep {K : PySem.W.Frag} {rho : List Addr} {H : Hp} {env : DEnv} {sg : L2.St} (e : RepEnv K rho H env sg) : ∀ vs : List Nat, RepEnv K rho H (wipeD env vs) (L2.wipe sg vs)
  | [] => e
  | v :: vs => by
    have ih := wipeD_rep e vs
    refine ⟨by simp [wipeD, L2.wipe, ih.1], fun i d h => ?_⟩
    unfold wipeD at h
    unfold L2.wipe
    by_cases hv : v = i
    · subst hv
      rw [List.getElem?_set] at h
      simp at h
    · rw [List.getElem?_set_ne hv] at h
      rw [List.getElem?_set_ne hv]
      exact ih.2 i d h
section
variable {X : Cx} {T : List (Addr × Str)} {W : WX} {a b c e tg elt iter : Expr} {fa fb fc fo : EF} {pos p : Pos} {es : List Expr} {fr fk : AF} {ft fu : TF} {x : Str}
theorem lc_use {fi : IF} {vs ws : List Nat} {gt : GF} {ft : TF} {fe : EF} {sg : L2.St} {H : Hp} {Q : VK} {G : Gam} (hw : ∀ i ∈ ws, i ∈ vs) (h : dE G W (eLc fi vs gt ft fe) sg H Q) : tLc (dI G W fi) (dG G ws gt) (dT G WF ft) (dE G WF fe) vs sg H Q := by
  obtain ⟨rho, env, M, r, e, h⟩ := h
  refine ⟨rho, env, M, r, e, Fin.mono (Fin.bind h) fun it r1 M1 H1 p1 q1 h1 J hJ D hD => ?_⟩
  have p2 : Post r1 H1 (r1 ++ [D]) (upd H1 D (.lst [])) := Post.new hD
  have q2 : RelH G (r1 ++ [D]) (M1 ++ [.lst []]) (upd H1 D (.lst [])) := q1.new hD ⟨[], rfl, rfl⟩
  have at0 : (r1 ++ [D])[M1.length]? = some D := by rw [q1.len]; simp
  refine ⟨fun i m H2 => ∃ r2 env2 M2, Post r1 H1 r2 H2 ∧ RelH G r2 M2 H2 ∧ RepEnv G.K r2 H2 env2 sg ∧ r2[M1.length]? = some D ∧ Fin G (fun c d H' => W c d sg H') r2 H2 (lcD it.nx vs gt ft fe M1.length m i env2 M2) fun _ r' M' H' => RelH G r' M' H' → Q (.ref D) H',
    ⟨it.n + 1, r1 ++ [D], env, M1 ++ [.lst []], p2, q2, (e.post r p1).post q1 p2, at0, ?_⟩, ?_⟩
  · have h2 := Fin.post (Fin.bind h1) p2
    refine Fin.mono (k := fun _ r' M' H' => r'[M1.length]? = some D → Q (.ref D) H') (Fin.mono h2 fun u r' M' H' p' q' h' a' => h'.here q' (.ref D) ⟨D, a', rfl⟩) fun u r' M' H' p' q' h' _ => h' (p'.get at0)
  rintro i m H2 ⟨r2, env2, M2, p2, q2, e2, a2, h2⟩
  cases m with
  | zero => exact (show False from h2).elim
  | succ k =>
    have good := hJ i r2 M2 H2 p2 q2
    unfold lcD at h2
    cases hn : it.nx i M2 with
    | none =>
      rw [hn] at h2
      exact (show False from h2).elim
    | some o =>
      rw [hn] at h2 good
      cases o with
      | none => exact .inl ⟨good, h2.here q2 q2⟩
      | some d =>
        refine .inr ⟨good.1, fun H' => ∃ r3 env3 M3, Post r1 H1 r3 H' ∧ RelH G r3 M3 H' ∧ RepEnv G.K r3 H' env3 sg ∧ r3[M1.length]? = some D ∧ Fin G (fun c d H' => W c d sg H') r3 H' (lcD it.nx vs gt ft fe M1.length k (i + 1) env3 M3) fun _ r' M' H' => RelH G r' M' H' → Q (.ref D) H',
          fun H' hN => ⟨k, Nat.lt_succ_self k, hN⟩, fun x H' hy => ?_⟩
        obtain ⟨p3, q3, rx⟩ := good.2 x H' hy
        have h3 := Fin.post (Fin.bind h2) p3
        refine ⟨r2, wipeD env2 vs, M2, d, q3, wipeD_rep (e2.post q2 p3) vs, rx, Fin.no (Fin.mono h3 fun env' r4 M4 H4 p4 q4 h4 sg4 e4 o4 => ⟨wipe_eq o4 hw, ?_⟩)⟩
        refine ⟨r4, env', M4, q4, e4, Fin.no (Fin.mono (Fin.bind h4) fun bb r5 M5 H5 p5 q5 h5 => ?_)⟩
        cases bb with
        | false =>
          rw [if_neg (by decide)] at h5 ⊢
          have pp : Post r2 H2 r5 H5 := p3.trans (p4.trans p5)
          exact ⟨r5, env2, M5, p2.trans pp, q5, e2.post q2 pp, pp.get a2, h5⟩
        | true =>
          rw [if_pos rfl] at h5 ⊢
          refine ⟨r5, env', M5, q5, e4.post q4 p5, Fin.no (Fin.mono (Fin.bind h5) fun y r6 M6 H6 p6 q6 h6 v rv => ?_)⟩
          have pp : Post r2 H2 r6 H6 := p3.trans (p4.trans (p5.trans p6))
          have a6 := pp.get a2
          split at h6
          · rename_i acc hm
            split at h6
            · rename_i hl
              obtain ⟨ho, e7, e8⟩ := q6.at a6 hm
              obtain ⟨ac, rfl, e9⟩ := e8
              have p7 : Post r6 H6 r6 (upd H6 D (.lst (ac ++ [v]))) := Post.put e7 (List.mem_of_getElem? a6)
              have q7 : RelH G r6 (M6.set M1.length (.lst (acc ++ [y]))) (upd H6 D (.lst (ac ++ [v]))) := q6.put a6 e7 ⟨_, rfl, reps_app e9 ⟨v, [], rfl, rv, rfl⟩⟩
              exact ⟨ac, e7, by rw [lim_eq, reps_len e9]; exact hl, r6, env2, _, p2.trans (pp.trans p7), q7, e2.post q2 (pp.trans p7), a6, Fin.post h6 p7⟩
            · exact h6.elim
          · exact h6.elim
variable {fi : IF} {ws : List Nat} {gt : GF} {fe : EF} {ifs : List Expr} {scope : Scope} {own : List (Str × Nat)}
theorem dt_yes {Y : Cx} : PTs Y [] (dT (gm Y T) WF tfYes) := ⟨fun pins s sg H Q I ⟨rho, env, M, r, e, h⟩ => pts_nil.run pins s sg H Q I (h.here r)⟩
theorem d_lc (hc : X.calm = true) (hN : X.N.Nodup) (hi : DI X T W tg iter fi) (ok : BlkOk X.N X.env.scope scope own) (hw : ∀ i ∈ ws, i ∈ own.map (·.2))
    (hg : ∀ (s : Shared) (H : Hp) (C : Addr) (cl : List (Str × Addr)) (fp : List Addr), DG (X.blk s H scope (compEnvC scope cl C X.env) fp) T ws tg gt) (ht : ∀ (s : Shared) (H : Hp) (C : Addr) (cl : List (Str × Addr)) (fp : List Addr), PTs (X.blk s H scope (compEnvC scope cl C X.env) fp) ifs (dT (gm X T) WF ft))
    (he : ∀ (s : Shared) (H : Hp) (C : Addr) (cl : List (Str × Addr)) (fp : List Addr), DE (X.blk s H scope (compEnvC scope cl C X.env) fp) T WF elt fe) (hs : ∀ x, foldedSetIterable iter X.env x = pure x := by intro _; rfl) :
    DE X T W (.ListComp elt [⟨tg, iter, ifs, 0⟩] scope pos) (eLc fi (own.map (·.2)) gt ft fe) := pe_imp (pe_lc hc hN hi ok hg ht he hs) fun _ _ _ h => lc_use hw h
theorem d_setLc {i : Nat} {y : Str} {py spos : Pos} (hc : X.calm = true) (hN : X.N.Nodup) (hy : X.N[i]? = some y) (hyl : X.env.scope.names.lookup y = some .local) (hi : DI X T W tg iter fi) (ok : BlkOk X.N X.env.scope scope own) (hw : ∀ i ∈ ws, i ∈ own.map (·.2))
    (hg : ∀ (s : Shared) (H : Hp) (C : Addr) (cl : List (Str × Addr)) (fp : List Addr), DG (X.blk s H scope (compEnvC scope cl C X.env) fp) T ws tg gt) (ht : ∀ (s : Shared) (H : Hp) (C : Addr) (cl : List (Str × Addr)) (fp : List Addr), PTs (X.blk s H scope (compEnvC scope cl C X.env) fp) ifs (dT (gm X T) WF ft))
    (he : ∀ (s : Shared) (H : Hp) (C : Addr) (cl : List (Str × Addr)) (fp : List Addr), DE (X.blk s H scope (compEnvC scope cl C X.env) fp) T WF elt fe) (hs : ∀ x, foldedSetIterable iter X.env x = pure x := by intro _; rfl)
    (hsw : swapsWith (.ListComp elt [⟨tg, iter, ifs, 0⟩] scope pos) (some (.Name y py)) spos.line X.env = pure true := by rfl) :
    DS X T W (.Assign [.Name y py] (.ListComp elt [⟨tg, iter, ifs, 0⟩] scope pos) spos) (sSet i (eLc fi (own.map (·.2)) gt ft fe)) := d_set (ps_imp (ps_setLc hc hN hy hyl hsw hi ok hg ht he hs) fun D' sg H h => lc_use hw h)
end
end Tr

set_option Elab.async false
set_option linter.all false
set_option maxRecDepth 100000
set_option maxHeartbeats 4000000
namespace Tr
open PySem PySem.Spec PyProof.Rows L2

theorem r1 {k : Nat} {A : Around} (r : Room k A) : A.units + 1 < cLine := by have := r.un; omega
theorem r64 {k : Nat} {A : Around} (r : Room k A) : A.units + 64 < cLine := r.units
theorem r65 {k : Nat} {A : Around} (r : Room k A) : A.units + 65 < cLine := by have := r.un; omega
section
variable {X : Cx} {T : List (Addr × Str)} {W : WX} {a b c e tg : Expr} {fa fb fc fo : EF} {pos p : Pos} {es : List Expr} {fr fk : AF} {ft fu : TF} {x y z : Str}
/-! ### a, b = x, y -/
def sPar (i j : Nat) (fr : AF) : SF := fun env M => (fr env M).st env fun ds M1 => match ds with
  | [d1, d2] => .ok (.nx, (env.set i (some d1)).set j (some d2)) M1
  | _ => .bad
theorem d_par {i j : Nat} {px py pt : Pos} {kt k2 pt2} (hc : X.calm = true) (hN : X.N.Nodup) (hi : X.N[i]? = some x) (hj : X.N[j]? = some y) (hij : i ≠ j) (hx : X.env.scope.names.lookup x = some .local) (hy : X.env.scope.names.lookup y = some .local) (ha : DA X T W [a, b] fr)
    (hw : swappedStores [.Tuple [.Name x px, .Name y py] kt pt] (.Tuple [a, b] k2 pt2) X.env = pure (some [x, y]) := by rfl)
    (hs : swapsWithSole [.Tuple [.Name x px, .Name y py] kt pt] (.Tuple [a, b] k2 pt2) pos.line X.env = pure false := by rfl) :
    DS X T W (.Assign [.Tuple [.Name x px, .Name y py] kt pt] (.Tuple [a, b] k2 pt2) pos) (sPar i j fr) := ps_imp (ps_par hc hN hi hj hij hx hy ha hw hs) fun D' sg H ⟨rho, env, M, r, e, h⟩ =>
  ⟨rho, env, M, r, e, Fin.mono (Fin.st r e h) fun ds r1 M1 H1 p1 q1 h1 vs rv => by
    split at h1
    · obtain ⟨v, u, rfl, rx, ru⟩ := reps_two rv
      exact ⟨v, u, rfl, h1.here q1 _ (repEnv_set (repEnv_set (e.post r p1) i rx) j ru)⟩
    · exact h1.elim⟩
def sPar3 (i j l : Nat) (fr : AF) : SF := fun env M => (fr env M).st env fun ds M1 => match ds with
  | [d1, d2, d3] => .ok (.nx, ((env.set i (some d1)).set j (some d2)).set l (some d3)) M1
  | _ => .bad
theorem d_par3 {i j l : Nat} {px py pz pt : Pos} {kt k2 pt2} (hc : X.calm = true) (hN : X.N.Nodup) (hi : X.N[i]? = some x) (hj : X.N[j]? = some y) (hl : X.N[l]? = some z) (hij : i ≠ j) (hil : i ≠ l) (hjl : j ≠ l)
    (hx : X.env.scope.names.lookup x = some .local) (hy : X.env.scope.names.lookup y = some .local) (hz : X.env.scope.names.lookup z = some .local) (ha : DA X T W [a, b, c] fr)
    (hw : swappedStores [.Tuple [.Name x px, .Name y py, .Name z pz] kt pt] (.Tuple [a, b, c] k2 pt2) X.env = pure (some [x, y, z]) := by rfl)
    (hs : swapsWithSole [.Tuple [.Name x px, .Name y py, .Name z pz] kt pt] (.Tuple [a, b, c] k2 pt2) pos.line X.env = pure false := by rfl) :
    DS X T W (.Assign [.Tuple [.Name x px, .Name y py, .Name z pz] kt pt] (.Tuple [a, b, c] k2 pt2) pos) (sPar3 i j l fr) := ps_imp (ps_par3 hc hN hi hj hl hij hil hjl hx hy hz ha hw hs) fun D' sg H ⟨rho, env, M, r, e, h⟩ =>
  ⟨rho, env, M, r, e, Fin.mono (Fin.st r e h) fun ds r1 M1 H1 p1 q1 h1 vs rv => by
    split at h1
    · obtain ⟨v, rr, rfl, rx, rv⟩ := rv
      obtain ⟨u, t, rfl, ru, rt⟩ := reps_two rv
      exact ⟨v, u, t, rfl, h1.here q1 _ (repEnv_set (repEnv_set (repEnv_set (e.post r p1) i rx) j ru) l rt)⟩
    · exact h1.elim⟩
/-! ### {} -/
def eDictK : EF := fun _ M => newO (.dK []) M
def eDictT : EF := fun _ M => newO (.dT []) M
theorem d_dictK : DE X T W (.Dict [] [] pos) eDictK := pe_imp pe_dnewK fun sg H Q ⟨rho, env, M, r, e, h⟩ l hl => let z := newO_ok (G := gm X T) (m := .dK []) r ⟨[], rfl, rfl⟩ h l hl; z.1 _ z.2
theorem d_dictT : DE X T W (.Dict [] [] pos) eDictT := pe_imp pe_dnewT fun sg H Q ⟨rho, env, M, r, e, h⟩ l hl => let z := newO_ok (G := gm X T) (m := .dT []) r ⟨[], rfl, rfl⟩ h l hl; z.1 _ z.2
end
end Tr

set_option Elab.async false
set_option linter.all false
set_option maxRecDepth 100000
set_option maxHeartbeats 4000000
namespace Tr
open PySem PySem.Spec PyProof.Rows L2

/-! ### the part of the heap that is looked at -/
def kidsM (o : Obj) : List Addr := match o.data with
  | .func fd => He.refV fd.code ++ He.refV fd.defaults
  | .dict es _ => es.toList.flatMap fun e => He.refV e.val
  | .seq its _ => its.toList.flatMap He.refV
  | .cls cd => [cd.ns]
  | _ => []
def nextM (g : Addr → Option Obj) (as : List Addr) : List Addr := as.flatMap fun a => match g a with
  | some o => kidsM o
  | none => []
/-- the module's names, and what these name, n deep -/
def addrM (g : Addr → Option Obj) : Nat → List Addr → List Addr
  | 0, as => as
  | n + 1, as => as ++ addrM g n (nextM g as)
def asM (g : Addr → Option Obj) (n : Nat) : List Addr := addrM g n [mainGlobals]
/-! ### values by trees -/
mutual
def repB (K : PySem.W.Frag) : D → Value → Bool
  | .non, .none => true
  | .bl b, .bool c => b == c
  | .int i, .int j _ => decide (i = j)
  | .str x, .str y _ => decide (x = y)
  | .ty n, .type m => decide (n = m)
  | .ktup xs, .ref a => (match K.lookup a with
    | some ⟨.type c, none, .seq its _, _⟩ => decide (c = "tuple") && (decide (its.size ≤ sizeLine) && repsB K xs its.toList)
    | _ => false)
  | _, _ => false
def repsB (K : PySem.W.Frag) : List D → List Value → Bool
  | [], [] => true
  | x :: xs, u :: us => repB K x u && repsB K xs us
  | _, _ => false
end
mutual
theorem repB_ok {K : PySem.W.Frag} : ∀ (d : D) (u : Value), repB K d u = true → ∃ v, RelV v u ∧ RepC K d v
  | .non, u, h => by cases u <;> first | exact ⟨.non, rfl, fun _ _ => rfl⟩ | cases h
  | .bl b, u, h => by
    cases u <;> first | cases h | skip
    rename_i c
    have e : b = c := eq_of_beq (show (b == c) = true from h)
    subst e
    exact ⟨.bl b, rfl, fun _ _ => rfl⟩
  | .int i, u, h => by
    cases u <;> first | cases h | skip
    rename_i j t
    have e : i = j := of_decide_eq_true h
    subst e
    exact ⟨.int i, ⟨t, rfl⟩, fun _ _ => rfl⟩
  | .str i, u, h => by
    cases u <;> first | cases h | skip
    rename_i j t
    have e : i = j := of_decide_eq_true h
    subst e
    exact ⟨.str i, ⟨t, rfl⟩, fun _ _ => rfl⟩
  | .ty i, u, h => by
    cases u <;> first | cases h | skip
    rename_i j
    have e : i = j := of_decide_eq_true h
    subst e
    exact ⟨.ty i, rfl, fun _ _ => rfl⟩
  | .ktup xs, u, h => by
    cases u <;> first | cases h | skip
    rename_i a
    have h1 : (match K.lookup a with
      | some ⟨.type c, none, .seq its _, _⟩ => decide (c = "tuple") && (decide (its.size ≤ sizeLine) && repsB K xs its.toList)
      | _ => false) = true := h
    split at h1
    · rename_i c its n sl q
      obtain ⟨z1, z2⟩ := He.ba h1
      obtain ⟨z3, z4⟩ := He.ba z2
      obtain ⟨vs, r1, r2⟩ := repsB_ok xs its.toList z4
      exact ⟨.ref a, rfl, fun rho H => ⟨a, vs, rfl, .inl ⟨_, its, n, q, congrArg Value.type (of_decide_eq_true z1), rfl, rfl, of_decide_eq_true z3, r1⟩, r2 rho H⟩⟩
    · cases h1
  | .adr _, u, h => by cases u <;> cases h
  | .obj _, u, h => by cases u <;> cases h
  | .tup _, u, h => by cases u <;> cases h
  | .klst _, u, h => by cases u <;> cases h
theorem repsB_ok {K : PySem.W.Frag} : ∀ (ds : List D) (us : List Value), repsB K ds us = true → ∃ vs, Vals vs us ∧ RepCs K ds vs
  | [], [], _ => ⟨[], .nil, fun _ _ => rfl⟩
  | [], _ :: _, h => by cases h
  | _ :: _, [], h => by cases h
  | d :: ds, u :: us, h => by
    obtain ⟨h1, h2⟩ := He.ba (show (repB K d u && repsB K ds us) = true from h)
    obtain ⟨v, r1, r2⟩ := repB_ok d u h1
    obtain ⟨vs, r3, r4⟩ := repsB_ok ds us h2
    exact ⟨v :: vs, .cons r1 r3, fun rho H => ⟨v, vs, rfl, r2 rho H, r4 rho H⟩⟩
end
/-! ### tables -/
def tabB (K : PySem.W.Frag) (t : Str × KTab) : Bool := t.2.all fun q => match PySem.W.nsIn K (He.ga K t.1) q.1 with
  | some (some u) => repB K q.2 u
  | _ => false
theorem ns_none {K : PySem.W.Frag} {P : Params} {a : Addr} {ks : List Str} (h : He.dicW K a = some (He.keysIn P ks)) {x : Str} (hx : x ∉ ks) : PySem.W.nsIn K a x = some none := by
  unfold He.dicW at h
  unfold PySem.W.nsIn
  split at h
  · rename_i c es n sl q
    rw [q]
    split at h
    · have e := Option.some.inj h
      have go : ∀ (l : List DictEntry) (ks : List Str), l.map He.keyOf = He.keysIn P ks → x ∉ ks → l.find? (·.key.isStr x) = none ∧ l.any (·.refKey) = false := by
        intro l
        induction l with
        | nil => intro ks _ _; exact ⟨rfl, rfl⟩
        | cons en r ih =>
          intro ks e hx
          cases ks with
          | nil => cases e
          | cons k ks =>
            have e1 : He.keyOf en :: r.map He.keyOf = some (k, PyData.keyHash P k) :: He.keysIn P ks := e
            injection e1 with e2 e3
            obtain ⟨i1, i2⟩ := ih ks e3 (fun z => hx (List.mem_cons_of_mem _ z))
            unfold He.keyOf at e2
            split at e2
            · rename_i y t hk
              obtain ⟨e4, _⟩ := Prod.mk.inj (Option.some.inj e2)
              subst e4
              have ne : y ≠ x := fun z => hx (by rw [z]; exact List.mem_cons_self)
              refine ⟨?_, ?_⟩
              · rw [List.find?_cons, hk]
                have : (Value.str y t).isStr x = false := by
                  show (y == x) = false
                  exact beq_eq_false_iff_ne.mpr ne
                rw [this]
                exact i1
              · rw [List.any_cons, i2]
                unfold DictEntry.refKey
                rw [hk]
                rfl
            · cases e2
      obtain ⟨g1, g2⟩ := go es.toList ks e hx
      show (match es.toList.find? (·.key.isStr x) with
        | some e => some (some e.val)
        | none => if es.toList.any (·.refKey) then none else some none) = some none
      rw [g1, g2]
      rfl
    · cases h
  · cases h
theorem look_all {t : KTab} {x : Str} {d : D} (h : t.lookup x = some d) : (x, d) ∈ t := by
  induction t with
  | nil => cases h
  | cons p r ih =>
    obtain ⟨y, e⟩ := p
    rw [List.lookup_cons] at h
    cases q : x == y with
    | true =>
      rw [q] at h
      cases h
      rw [eq_of_beq q]
      exact List.mem_cons_self
    | false =>
      rw [q] at h
      exact List.mem_cons_of_mem _ (ih h)
theorem look_none {t : KTab} {x : Str} (h : t.lookup x = none) : x ∉ t.map (·.1) := by
  induction t with
  | nil => simp
  | cons p r ih =>
    obtain ⟨y, e⟩ := p
    rw [List.lookup_cons] at h
    cases q : x == y with
    | true => rw [q] at h; cases h
    | false =>
      rw [q] at h
      simp only [List.map_cons, List.mem_cons, not_or]
      exact ⟨fun z => (by rw [z] at q; simp at q), ih h⟩
/-! ### the Hook -/
abbrev AlM : Type := Bool × He.AlT
structure Hs where
  n : Nat
  fa : List He.Fa
  fn : List He.DefD
  ts : List (Str × KTab)
  ex : PySem.W.Frag → Bool := fun _ => true
def Hs.obs (h : Hs) (K : PySem.W.Frag) : AlM := (h.ts.all (tabB K) && h.ex K, He.obsT h.fa h.fn (h.ts.map fun t => (fun K => He.ga K t.1, t.2.map (·.1))) K)
def Hs.val (h : Hs) (w : World) : AlM := (true, He.valT h.fn (h.ts.map fun t => (fun K => He.ga K t.1, t.2.map (·.1))) w)
def Hs.Says (h : Hs) (w : World) (K : PySem.W.Frag) : Prop := h.obs K = h.val w
def Hs.look (h : Hs) (g : Addr → Option Obj) : AlM := h.obs (He.frG g (asM g h.n))
def Hs.hook (h : Hs) : PySem.W.Hook where
  α := AlM
  obs := fun s => h.look s.heap.get?
  val := fun w => h.val w
  says := fun w hp => ∃ K : PySem.W.Frag, K.In hp ∧ h.Says w K
  of := fun _ _ e => ⟨_, He.frG_in, e⟩
  keeps := fun _ _ _ ⟨K, hK, c⟩ k => ⟨K, PySem.W.Frag.In.keeps hK k, c⟩
theorem Hs.look_eq {h : Hs} {g : Addr → Option Obj} {s : Shared} (e : ∀ a, g a = s.heap.get? a) : h.look g = h.hook.obs s := by
  rw [show g = s.heap.get? from funext e]
  rfl
section
variable {h : Hs} {w : World} {K : PySem.W.Frag}
theorem Hs.Says.t (c : h.Says w K) : He.SaysT h.fa h.fn (h.ts.map fun t => (fun K => He.ga K t.1, t.2.map (·.1))) w K := congrArg (fun z : AlM => z.2) c
theorem Hs.Says.d (c : h.Says w K) : He.SaysD h.fa h.fn K := c.t.d
theorem Hs.Says.b (c : h.Says w K) : h.ts.all (tabB K) = true ∧ h.ex K = true := He.ba (congrArg (fun z : AlM => z.1) c)
theorem Hs.Says.tab (c : h.Says w K) (i : Nat) {t : Str × KTab} (e : h.ts[i]? = some t := by rfl) : KTabOk K w (He.ga K t.1) t.2 := by
  have e0 : (h.ts.map fun t => ((fun K => He.ga K t.1, t.2.map (·.1)) : He.Tab))[i]? = some (fun K => He.ga K t.1, t.2.map (·.1)) := by rw [List.getElem?_map, e]; rfl
  have hk := c.t
  have e1 : (h.ts.map fun t => ((fun K => He.ga K t.1, t.2.map (·.1)) : He.Tab)).map (fun t => He.dicW K (t.1 K)) = (h.ts.map fun t => ((fun K => He.ga K t.1, t.2.map (·.1)) : He.Tab)).map fun t => some (He.keysIn w.params t.2) := congrArg (fun z : He.AlT => z.2) hk
  have e2 := congrArg (fun l => l[i]?) e1
  simp only [List.getElem?_map, e] at e2
  have e3 : He.dicW K (He.ga K t.1) = some (He.keysIn w.params (t.2.map (·.1))) := by simpa using e2
  refine ⟨c.t.tab i e0, fun x => ?_⟩
  split
  · rename_i y hy
    have := List.all_eq_true.mp (List.all_eq_true.mp c.b.1 t (List.mem_of_getElem? e)) (x, y) (look_all hy)
    dsimp only at this
    split at this
    · rename_i u hu
      obtain ⟨v, r1, r2⟩ := repB_ok y u this
      exact ⟨u, v, hu, r1, r2⟩
    · cases this
  · rename_i hy
    exact ns_none e3 (look_none hy)
end
end Tr

set_option Elab.async false
set_option linter.all false
set_option maxRecDepth 100000
set_option maxHeartbeats 4000000
namespace Tr
open PySem PySem.Spec PyProof.Rows L2

/-- the law's call behind the top -/
theorem law_go {P : Program} {w : World} {K : PySem.W.Frag} {mg mb : Str → Option Value} {k : Nat} {f a : Addr} {fd : FuncData} {x : Str} {F : FF} {s0 : Shared} {vs : List Value} {ns : List Int} {M' : Mem}
    (kin : K.In s0.heap) (mns : s0.heap.Ns mainGlobals mg) (bns : s0.heap.Ns builtinsNs mb) (bbs : ∀ x : Str, x ≠ "__name__" → mb x = bootBuiltins x) (nol : s0.heap.NoLimit) (gens : s0.gens = #[])
    (at0 : s0.heap.get? a = some { cls := .type "list", data := .seq vs.toArray }) (itsI : IntsAre vs ns) (short : ns.length ≤ sizeLine) (room : Room k callerA)
    (Fn : ∀ base : Heap, K.In base → base.Ns mainGlobals mg → FnG P w K [] mg base k f fd [x] F) (bind : ∀ (s : Shared) (u : Value), BindsTo s fd ⟨[u], []⟩ [(x, u)])
    (good : F [.klst (ns.map D.int)] [] = .ok (.bl true) M') :
    codeAny (model P w) callerA (.call (.ref f) ⟨[.ref a], []⟩) (fun r s' => r = .ok (.ret (.bool true)) ∧ OldK s0.heap s'.heap ∧ s'.os = s0.os ∧ AllBare s'.gens) s0 := by
  have valsI := vals_ints itsI
  have eqlen := itsI.length
  have main : ∀ H : Hp, Only H → KLat K H a (ns.map V.int) → HOk P w H s0.heap → (∀ b, H b ≠ none → b = a) → (H a ≠ none → K.lookup a = none) →
      codeAny (model P w) callerA (.call (.ref f) ⟨[.ref a], []⟩) (fun r s' => r = .ok (.ret (.bool true)) ∧ OldK s0.heap s'.heap ∧ s'.os = s0.os ∧ AllBare s'.gens) s0 := by
    intro H only list ok lone notK
    have hid : ∀ {b : Addr} {o : Obj}, s0.heap.get? b = some o → H b = none → (hidT s0.heap H).get? b = some o := fun e n => hidT_get e n
    have dictless : ∀ {b : Addr} {o : Obj} {es : Array DictEntry} {ep : Nat}, s0.heap.get? b = some o → o.data = .dict es ep → H b = none := fun {b o es ep} e d => by
      refine Classical.byContradiction fun q => ?_
      obtain rfl := lone b q
      rw [at0] at e
      cases e
      exact Data.noConfusion (show Data.seq vs.toArray _ = Data.dict es ep from d)
    have nsH : ∀ {b : Addr} {m : Str → Option Value}, s0.heap.Ns b m → (hidT s0.heap H).Ns b m := fun {b m} z => by
      obtain ⟨o, es, ep, e, d, r⟩ := z
      exact ⟨o, es, ep, hid e (dictless e d), d, r⟩
    have kinH : K.In (hidT s0.heap H) := fun b o e => hid (kin b o e) (Classical.byContradiction fun q => by
      obtain rfl := lone b q
      rw [notK q] at e
      cases e)
    have nolH : (hidT s0.heap H).NoLimit := by
      obtain ⟨mc, n1, n2⟩ := nol
      exact ⟨mc, nsH n1, n2⟩
    have e0 : Env0 P w K mg (hidT s0.heap H) callerA [] s0 H :=
      ⟨rfl, ⟨kinH, nsH mns, ⟨mb, nsH bns, bbs⟩, nolH⟩, fun b o e => of_hidT e, Nat.le_of_eq (hidT_size _ _), trivial, fun b hb => (by cases (show b ∈ ([] : List Addr) from hb)), ok, .of_eq gens⟩
    have rel : RelH ⟨K, []⟩ [] [] H := ⟨rfl, .nil, fun i m e => by simp at e, fun q hq => by cases hq⟩
    have reps : Reps K [] H [.klst (ns.map D.int)] [.ref a] := ⟨.ref a, [], rfl, ⟨a, _, rfl, list, reps_mapI ns⟩, rfl⟩
    have fin : Fin ⟨K, []⟩ (fun _ _ _ => False) [] H (F [.klst (ns.map D.int)] []) fun d rho' _ H' => ∀ v, Rep K rho' H' d v → v = .bl true := by
      rw [good]
      exact fun rho' H' _ _ v rv => rv
    refine codeAny_mono ((Fn _ kinH (nsH mns)).run callerA [] s0 H ⟨[.ref a], []⟩ [.ref a] [.ref a] _ [] [] (fun v _ => v = .bl true) (fun _ _ _ => False) room rfl e0 (bind s0 (.ref a)) (.cons rfl .nil) rel reps rfl fin) fun r s' h => ?_
    cases r with
    | error e =>
      obtain ⟨_, _, _, _, _, _, _, _, _, _, _, _, _, _, z⟩ := h
    | ok fl =>
      cases fl with
      | ret u =>
        obtain ⟨v, H', os, bare, un, ok', rv, q⟩ := h
        obtain rfl : v = .bl true := q
        obtain rfl : u = Value.bool true := rv
        refine ⟨rfl, OldK.of_keep fun b o e => ?_, os, bare⟩
        rcases only b with z | ⟨ob, xs, z⟩
        · exact un.keep b o e z (fun z => by cases (show b ∈ ([] : List Addr) from z)) (by simp)
        · have z2 := un.frzs b ob _ z
          obtain ⟨g1, _⟩ := ok b _ z
          obtain ⟨g2, _⟩ := ok' b _ z2
          rw [e] at g1
          cases g1
          exact g2
      | next => exact h.elim
      | brk => exact h.elim
      | cont => exact h.elim
  cases hk : K.lookup a with
  | some o =>
    have e := kin a o hk
    rw [at0] at e
    cases e
    exact main (fun _ => none) (fun _ => .inl rfl) (.inr ⟨_, vs.toArray, _, hk, rfl, rfl, rfl, by rw [List.size_toArray, eqlen]; exact short, by simpa using valsI⟩)
      (fun b u z => by cases (show (none : Option HO) = some u from z)) (fun b z => (z rfl).elim) fun z => (z rfl).elim
  | none =>
    have pick : ∀ {b : Addr} {u : HO}, (if b = a then some (HO.frz { cls := .type "list", data := .seq vs.toArray } (.lst (ns.map V.int))) else none) = some u → b = a ∧ u = HO.frz { cls := .type "list", data := .seq vs.toArray } (.lst (ns.map V.int)) := fun {b u} z => by
      by_cases hb : b = a
      · rw [if_pos hb] at z
        exact ⟨hb, (Option.some.inj z).symm⟩
      · rw [if_neg hb] at z
        cases z
    refine main (fun b => if b = a then some (.frz { cls := .type "list", data := .seq vs.toArray } (.lst (ns.map V.int))) else none) (fun b => ?_) (.inl ⟨_, if_pos rfl⟩) (fun b u z => ?_) (fun b z => ?_) fun _ => hk
    · by_cases hb : b = a
      · exact .inr ⟨_, _, if_pos hb⟩
      · exact .inl (if_neg hb)
    · obtain ⟨rfl, rfl⟩ := pick z
      exact ⟨at0, by rw [List.length_map]; exact short, vs, _, valsI, at0⟩
    · exact Classical.byContradiction fun hb => z (if_neg hb)
theorem funD_inj {K : PySem.W.Frag} {x q x' q' : Str} {a a' : Arguments} {b b' : List Stmt} {s s' : Scope} {d d' : List V} {k k' : List (Str × V)} {f : Addr} {fd fd' : FuncData} (F : FunD K x q a b s d k f fd) (F' : FunD K x' q' a' b' s' d' k' f fd') : fd = fd' := by
  obtain ⟨_, _, _, _, _, _, _, _, _, _, _, l, _⟩ := F.ex
  obtain ⟨_, _, _, _, _, _, _, _, _, _, _, l', _⟩ := F'.ex
  rw [l] at l'
  cases l'
  rfl
/-- the row's walk, from the head's facts -/
theorem walkG {l : PySem.W.OpenLaw} {n k : Nat} {q : Program} {loose : List Str} {XP : (Str → Option Value) → Heap → Prop} {YP : World → Heap → Prop} {d : DefRec} {x : Str} (F : FF)
    (most : l.most = some n) (short : n ≤ sizeLine) (nodf : d.params.defaults = []) (room : Room k callerA)
    (Fn : ∀ (w : World) (mg : Str → Option Value) (f : Addr) (h : Heap), YP w h → h.Ns mainGlobals mg → mg d.name = some (.ref f) →
      ∃ (K : PySem.W.Frag) (fd : FuncData), K.In h ∧ (∀ (s : Shared) (u : Value), BindsTo s fd ⟨[u], []⟩ [(x, u)]) ∧ ∀ base : Heap, K.In base → base.Ns mainGlobals mg → FnG l.prog w K [] mg base k f fd [x] F)
    (good : ∀ ns : List Int, ns.length ≤ n → ∃ M', F [.klst (ns.map D.int)] [] = .ok (.bl true) M') :
    PySem.W.WalkO q loose XP YP l.row.toRowW d [] (fun f vs => PySem.call f vs) := by
  refine Att.attach_call most nodf fun w s0 s1 mg mb f o pm cd doc a vs ns G Y _ _ _ hmg hobj hints hlen hg => ?_
  obtain ⟨K, fd, kin, hb, hF⟩ := Fn w mg f _ Y G.T.g hmg
  obtain ⟨M', gd⟩ := good ns hlen
  exact law_go kin G.T.g G.T.b G.T.builtins G.T.nolimit hg hobj hints (Nat.le_trans hlen short) room hF hb gd
end Tr

set_option Elab.async false
set_option linter.all false
set_option maxRecDepth 100000
set_option maxHeartbeats 4000000
namespace Tr
open PySem PySem.Spec PyProof.Rows L2
section
variable {X : Cx} {T : List (Addr × Str)} {W : WX} {x : Str} {p : Pos} {n : String}
theorem d_ty (hg : Gl X x) (hm : X.mg x = none) (hv : bootBuiltins x = some (.type n)) (hn : x ≠ "__name__" := by decide) (hdb : (x == ("__debug__" : Str)) = false := by decide) : DE X T W (.Name x p) (eK (.ty n)) :=
  d_const (v := .ty n) ⟨fun pins s sg H Q I h => ld_blt I hg hm hv ⟨.ty n, H, I, rfl, h⟩ hn hdb⟩ fun _ _ => rfl
end
def dedupS : List Str → List Str
  | [] => []
  | x :: r => if r.contains x then dedupS r else x :: dedupS r
/-- sorted(set(x)) of texts -/
def gSortSet : CF := fun xs M => match xs with
  | [x] => (match tupD x, seqD x M with
    | none, some ys => (match strsD ys with
      | some ns => if ns.length < 64 then newL ((sortS (dedupS ns)).map D.str) M else .bad
      | none => .bad)
    | _, _ => .bad)
  | _ => .bad
end Tr

set_option Elab.async false
set_option linter.all false
set_option maxRecDepth 100000
set_option maxHeartbeats 4000000
namespace Tr
open PySem PySem.Spec PyProof.Rows L2
/-! ### sorted(set(xs)) of texts -/
def txtOf (e : Int × Value) : Str := match e.2 with
  | .str k _ => k
  | _ => Str.empty
def rawT (v : Value) : Str := match v with
  | .str k _ => k
  | _ => Str.empty
def GoodT (P : Program) (w : World) (e : Int × Value) : Prop := ∃ k tk, e.2 = Value.str k tk ∧ e.1 = (PySem.strKind P w).hash k
/-- the set of texts at a: its members S, n of them -/
def StrSet (P : Program) (w : World) (h : Heap) (a : Addr) (S : Str → Bool) (n : Nat) : Prop :=
  ∃ o es ep t, h.get? a = some o ∧ o.ExactSet ∧ o.data = .set es ep t ∧ (∀ e ∈ es.toList, GoodT P w e) ∧ (es.toList.map txtOf).Nodup ∧ (∀ k, S k = true ↔ k ∈ es.toList.map txtOf) ∧
    es.size < scanBound ∧ t.fits es.size = true ∧ es.size = n ∧ Ris t.place.toList ∧ (w.params.followText "set-order" = true ∨ t.led = true)
section
variable {P : Program} {w : World} {h h' : Heap} {a : Addr} {S : Str → Bool} {n : Nat}
theorem StrSet.at (R : StrSet P w h a S n) (k : ∀ o, h.get? a = some o → h'.get? a = some o) : StrSet P w h' a S n := by
  obtain ⟨o, es, ep, t, g, r⟩ := R
  exact ⟨o, es, ep, t, k o g, r⟩
theorem StrSet.congr {S' : Str → Bool} (R : StrSet P w h a S n) (e : ∀ k, S' k = S k) : StrSet P w h a S' n := by
  rw [show S' = S from funext e]
  exact R
theorem goodT_elems {l : List (Int × Value)} (g : ∀ e ∈ l, GoodT P w e) : ElemsOf (PySem.strKind P w) l := fun e he => by
  obtain ⟨k, tk, h1, h2⟩ := g e he
  exact ⟨⟨k, by rw [h1]; exact PySem.strKind_is P w k tk, h2⟩, by rw [h1]; rfl⟩
theorem goodT_is {e : Int × Value} (g : GoodT P w e) (k : Str) : (PySem.strKind P w).is k e.2 = true ↔ txtOf e = k := by
  obtain ⟨k0, tk, h1, _⟩ := g
  unfold txtOf
  rw [h1]
  show ((k0 == k) = true) ↔ k0 = k
  exact beq_iff_eq
theorem goodT_mem {l : List (Int × Value)} (g : ∀ e ∈ l, GoodT P w e) (k : Str) : k ∈ l.map txtOf ↔ ∃ e ∈ l, (PySem.strKind P w).is k e.2 = true := by
  rw [List.mem_map]
  exact ⟨fun ⟨e, he, q⟩ => ⟨e, he, (goodT_is (g e he) k).2 q⟩, fun ⟨e, he, q⟩ => ⟨e, he, (goodT_is (g e he) k).1 q⟩⟩
theorem strset_new {ns : List Str} (g : h.get? a = some { cls := .type "set", dict := none, data := .set #[] 0 (.fresh 0 0 (!w.params.followText "set-order")) }) : StrSet P w h a (fun j => decide (j ∈ ns.take 0)) 0 := by
  refine ⟨_, #[], 0, _, g, ⟨rfl, rfl, rfl⟩, rfl, fun e he => by simp at he, by simp, fun k => by simp, by decide, by rfl, rfl, List.Pairwise.nil, ?_⟩
  show _ ∨ (!w.params.followText "set-order") = true
  cases w.params.followText "set-order"
  · exact .inr rfl
  · exact .inl rfl
end
section
variable {P : Program} {w : World} {A : Around} {Ex : Value → Shared → Prop} {s : Shared} {a : Addr} {S : Str → Bool} {n : Nat}

theorem strset_tail {g : Bool → Sem Unit} (hg : ∀ (b : Bool) (s₁ : Shared) (Wq' : Unit → Shared → Prop), Wq' () s₁ → wpAny (model P w) A (g b) Wq' Ex s₁)
    {o : Obj} {es : Array (Int × Value)} {ep : Nat} {t : SetTable} (got : s.heap.get? a = some o) (exact1 : o.ExactSet) (dat : o.data = .set es ep t)
    {es1 : Array (Int × Value)} {t2 : SetTable} {S' : Str → Bool} (g1 : ∀ e ∈ es1.toList, GoodT P w e) (nd1 : (es1.toList.map txtOf).Nodup) (m1 : ∀ k, S' k = true ↔ k ∈ es1.toList.map txtOf)
    (hb1 : es1.size < scanBound) (hf2 : t2.fits es1.size = true) (hr : Ris t2.place.toList) (led1 : w.params.followText "set-order" = true ∨ t2.led = true) {wasDummy : Bool} {R : Option Bool → Shared → Prop}
    (hR : ∀ h', Heap.SameBut a s.heap h' → StrSet P w h' a S' es1.size → R (some true) { s with heap := h' }) :
    wpAny (model P w) A (do
        storeSet a es1 t2
        if (!wasDummy && t2.tooFull) = true then do
            g (relayAll t2 es1 (SetTable.grown es1.size)).2.2
            storeSet a (relayAll t2 es1 (SetTable.grown es1.size)).1 (relayAll t2 es1 (SetTable.grown es1.size)).2.1
            pure (some true)
          else pure (some true)) R Ex s := by
  refine wpAny_bind (wpAny_storeSet_of got dat ?_ (fits_of_scanBound hb1))
  have ho1 := store_at (es' := es1) (t' := t2) got dat
  have sb1 := Heap.SameBut.update s.heap a (Obj.putSet es1 t2)
  split
  · have pm := relayAll_perm t2 es1 (SetTable.grown es1.size)
    have hf3 := relayAll_fits t2 es1 (SetTable.grown es1.size)
    have hr3 := relayAll_ris t2 es1 (SetTable.grown es1.size)
    have hl3 := relayAll_led t2 es1 (SetTable.grown es1.size)
    generalize relayAll t2 es1 (SetTable.grown es1.size) = Z at pm hf3 hr3 hl3 ⊢
    obtain ⟨es2, t3, gave⟩ := Z
    dsimp only at pm hf3 hr3 hl3 ⊢
    have hsz : es2.size = es1.size := by rw [← Array.length_toList, pm.length_eq, Array.length_toList]
    have hb2 : es2.size < scanBound := by rw [hsz]; exact hb1
    refine wpAny_bind (hg _ _ _ ?_)
    refine wpAny_bind (wpAny_storeSet_of ho1 rfl ?_ (fits_of_scanBound hb2))
    have ho2 := store_at (es' := es2) (t' := t3) ho1 rfl
    refine wpAny_pure (hR _ (sb1.trans (Heap.SameBut.update _ a _)) ?_)
    exact ⟨_, es2, _, t3, ho2, exact1, rfl, fun e he => g1 e (pm.mem_iff.mp he), (pm.map txtOf).nodup_iff.mpr nd1, fun k => (m1 k).trans (pm.map txtOf).mem_iff.symm, hb2, hf3, hsz, hr3,
      led1.imp id fun z => by rw [hl3]; exact z⟩
  · exact wpAny_pure (hR _ sb1 ⟨_, es1, _, t2, ho1, exact1, rfl, g1, nd1, m1, hb1, hf2, rfl, hr, led1⟩)


theorem strset_hashed {k : Str} {tk : Tok} {Wq : Bool → Shared → Prop} (R : StrSet P w s.heap a S n) (room : n + 1 < scanBound)
    (hQ : ∀ h', Heap.SameBut a s.heap h' → StrSet P w h' a (fun j => S j || decide (j = k)) (if S k = true then n else n + 1) → Wq (!S k) { s with heap := h' }) :
    wpAny (model P w) A (setAddHashed a (.str k tk) ((PySem.strKind P w).hash k)) Wq Ex s := by
  obtain ⟨o, es, ep, t, got, exact1, dat, g, nd, mem, few, hf, hn, hr, led1⟩ := R
  have hkey : (PySem.strKind P w).is k (.str k tk) = true := PySem.strKind_is P w k tk
  have hsc : (Value.str k tk).scannable = true := rfl
  have hel : ElemsOf (PySem.strKind P w) es.toList := goodT_elems g
  unfold setAddHashed setAddHashedIn
  refine wpAny_holding (wpAny_bind (wpAny_setState_of got dat hf ?_))
  dsimp only
  rw [byScan_of hsc few hel]
  simp only [↓reduceIte]
  unfold setAddByScan
  refine wpAny_bind ?_
  refine wpAny_bind (wpAny_rule ?_)
  refine wpAny_bind (wpAny_setScan_of hkey got dat hf hel ?_)
  cases hfi : List.findIdx? (fun e => (PySem.strKind P w).is k e.2) es.toList with
  | some j =>
    dsimp only
    obtain ⟨hj, pj, _⟩ := List.findIdx?_eq_some_iff_getElem.mp hfi
    have hSk : S k = true := (mem k).2 ((goodT_mem (P := P) (w := w) g k).2 ⟨es.toList[j], List.getElem_mem hj, pj⟩)
    refine wpAny_pure (wpAny_pure ?_)
    have q := hQ s.heap (Heap.SameBut.refl a s.heap) ⟨o, es, ep, t, got, exact1, dat, g, nd, fun i => by
      rw [Bool.or_eq_true, decide_eq_true_eq, ← mem i]
      exact ⟨fun z => z.elim id (fun e => e ▸ hSk), .inl⟩, few, hf, by rw [if_pos hSk]; exact hn, hr, led1⟩
    rw [hSk] at q
    exact q
  | none =>
    dsimp only
    have hnk : k ∉ es.toList.map txtOf := fun z => by
      obtain ⟨e, he, q⟩ := (goodT_mem (P := P) (w := w) g k).1 z
      have c := List.findIdx?_eq_none_iff.mp hfi e he
      rw [q] at c
      cases c
    have hSk : S k = false := by
      cases q : S k with
      | false => rfl
      | true => exact absurd ((mem k).1 q) hnk
    have hgw : ∀ (b : Bool) {s₁ : Shared} {Wq' : Unit → Shared → Prop}, Wq' () s₁ → wpAny (model P w) A (match b with | true => rule "set.scan.the-table-gave-way" | false => pure ()) Wq' Ex s₁ :=
      fun b s₁ Wq' q => by cases b <;> first | exact wpAny_pure q | exact wpAny_rule q
    have pm := layNew_perm t es ((PySem.strKind P w).hash k) (.str k tk)
    have hf1 := layNew_fits t es ((PySem.strKind P w).hash k) (.str k tk)
    have hr1 := layNew_ris t es ((PySem.strKind P w).hash k) (.str k tk) hr
    have hl1 := layNew_led t es ((PySem.strKind P w).hash k) (.str k tk)
    generalize layNew t es ((PySem.strKind P w).hash k) (.str k tk) = Z at pm hf1 hr1 hl1 ⊢
    obtain ⟨es1, t1, wasDummy, gave⟩ := Z
    dsimp only at pm hf1 hr1 hl1 ⊢
    rw [Array.toList_push] at pm
    have pc : es1.toList.Perm (((PySem.strKind P w).hash k, Value.str k tk) :: es.toList) := pm.trans (List.perm_append_singleton _ _)
    have pk : (es1.toList.map txtOf).Perm (k :: es.toList.map txtOf) := pc.map txtOf
    have g1 : ∀ e ∈ es1.toList, GoodT P w e := fun e he => by
      rcases List.mem_cons.mp (pc.mem_iff.mp he) with z | z
      · rw [z]; exact ⟨k, tk, rfl, rfl⟩
      · exact g e z
    have nd1 : (es1.toList.map txtOf).Nodup := pk.nodup_iff.mpr (List.nodup_cons.mpr ⟨hnk, nd⟩)
    have m1 : ∀ i, (S i || decide (i = k)) = true ↔ i ∈ es1.toList.map txtOf := fun i => by
      rw [Bool.or_eq_true, decide_eq_true_eq, mem i, pk.mem_iff, List.mem_cons]
      exact Or.comm
    have hsz : es1.size = n + 1 := by rw [← Array.length_toList, pc.length_eq, List.length_cons, Array.length_toList, hn]
    have hb1 : es1.size < scanBound := by rw [hsz]; exact room
    have hled : w.params.followText "set-order" = true ∨ t1.led = true := led1.imp id fun z => by rw [hl1]; exact z
    have fin : ∀ h', Heap.SameBut a s.heap h' → StrSet P w h' a (fun j => S j || decide (j = k)) es1.size → Wq true { s with heap := h' } := fun h' sb r => by
      have q := hQ h' sb
      rw [hSk] at q
      rw [hsz] at r
      exact q r
    refine wpAny_bind (hgw _ ?_)
    split
    · refine wpAny_bind ?_
      rw [hashByValue_scannable 8 hsc]
      refine wpAny_pure ?_
      refine strset_tail ?_ got exact1 dat g1 nd1 m1 hb1 ?_ ?_ ?_ ?_
      · intro b s₁ Wq' q; cases b <;> first | exact wpAny_pure q | exact wpAny_rule q
      · first | (split <;> first | exact hf1 | exact SetTable.fits_plain_off hf1) | exact hf1
      · first | (split <;> exact hr1) | exact hr1
      · first | (split <;> exact hled) | exact hled
      · intro h' sb r; dsimp only; exact wpAny_pure (fin h' sb r)
    · refine wpAny_bind (wpAny_pure ?_)
      simp only [↓reduceIte]
      refine strset_tail ?_ got exact1 dat g1 nd1 m1 hb1 hf1 hr1 hled ?_
      · intro b s₁ Wq' q; cases b <;> first | exact wpAny_pure q | exact wpAny_rule q
      · intro h' sb r; dsimp only; exact wpAny_pure (fin h' sb r)


theorem strset_loop {I : Addr} {fp wr : List Addr} {G : Array GenState → Array GenState → Prop} {n : Nat} {Pv : Nat → Value → Prop} {St : Nat → Shared → Prop} {R : Result → Shared → Prop}
    (W : WalksS P w A.in1 I fp wr G n Pv St) (S : Addr) (hSf : S ∉ fp) (ns : List Str) (hn : n = ns.length) (few : ns.length + 1 < scanBound) (hval : ∀ i v, Pv i v → ∃ k t, ns[i]? = some k ∧ v = .str k t) :
    ∀ (k i : Nat) (s : Shared), n - i = k → i ≤ n → St i s → (∃ c, c ≤ i ∧ StrSet P w s.heap S (fun j => decide (j ∈ ns.take i)) c) →
      (∀ s' c, Moved (S :: wr) G s s' → c ≤ n → StrSet P w s'.heap S (fun j => decide (j ∈ ns)) c → R (.ok (.ret .none)) s') →
      codeAny (model P w) A (.builtin "set.update.loop" ⟨[.ref S, .ref I], []⟩) R s := by
  have hSw : S ∉ wr := fun h => hSf (W.sub _ h)
  have hsub : ∀ b ∈ wr, b ∈ S :: wr := fun b few => List.mem_cons_of_mem _ few
  intro k
  induction k with
  | zero =>
    intro i s hk' hi hst ⟨c, hc, hS⟩ hR
    have hin : i = n := by omega
    subst hin
    refine codeAny_builtin F.entry_set_update_loop ?_
    rw [Around.under_plainId F.plain_set_update_loop _]
    show wpAny _ A.in1 (pyNext (.ref I) >>= _) _ _ s
    refine wpAny_bind (W.done s _ _ hst fun s' mem => ?_)
    show wpAny _ A.in1 (ret Value.none) _ _ s'
    have e : ns.take i = ns := List.take_of_length_le (by omega)
    rw [e] at hS
    exact wpAny_pure (hR s' c (mem.mono hsub) hc (hS.at fun o e => mem.heap S o hSw e))
  | succ k ih =>
    intro i s hk' hi hst ⟨c, hc, hS⟩ hR
    have hlt : i < n := by omega
    refine codeAny_builtin F.entry_set_update_loop ?_
    rw [Around.under_plainId F.plain_set_update_loop _]
    show wpAny _ A.in1 (pyNext (.ref I) >>= _) _ _ s
    refine wpAny_bind (W.item i s _ _ hlt hst fun v s' hP hst' mem => ?_)
    obtain ⟨z, t, hz, rfl⟩ := hval i v hP
    have hS' : StrSet P w s'.heap S (fun j => decide (j ∈ ns.take i)) c := hS.at fun o e => mem.heap S o hSw e
    show wpAny _ A.in1 (holding [Value.str z t] (setAdd S (.str z t)) >>= _) _ _ s'
    refine wpAny_bind (wpAny_holding ?_)
    unfold setAdd
    refine wpAny_holding ?_
    refine wpAny_bind ((PySem.strKind P w).pyHash (k := z) (PySem.strKind_is _ _ _ _) ?_)
    refine strset_hashed (s := { s' with toks := s'.toks + 1 }) hS' (by omega) fun h' hsb hS2 => ?_
    have hS3 : StrSet P w h' S (fun j => decide (j ∈ ns.take (i + 1))) (if decide (z ∈ ns.take i) = true then c else c + 1) := hS2.congr fun j => by
      rw [List.take_add_one, hz]
      simp [List.mem_append]
    have hc3 : (if decide (z ∈ ns.take i) = true then c else c + 1) ≤ i + 1 := by
      split <;> omega
    refine wpAny_pure ⟨plainId_quiet F.plain_set_update_loop _, ih (i + 1) _ (by omega) hlt (W.frame _ s' _ _ hst' (Nat.le_succ _) fun b few o e => ?_) ⟨_, hc3, hS3⟩ fun s'' c2 mem'' hc'' hS'' => ?_⟩
    · rw [hsb.2 b (fun h : b = S => hSf (by rw [← h]; exact few))]; exact e
    · refine hR s'' c2 (Moved.trans W.gtrans ((mem.mono hsub).then_heap (Nat.le_succ _) fun b o few e => ?_) mem'') hc'' hS''
      rw [hsb.2 b (fun h : b = S => few (by rw [h]; exact List.mem_cons_self))]; exact e


theorem call_strset {l : Addr} {items : Array Value} (ns : List Str) {Wq : Value → Shared → Prop} (hh : A.handled = none) (led1 : s.heap.IsList l items) (hit : StrsAre items.toList ns) (few : ns.length + 1 < scanBound)
    (h : ∀ (h' : Heap) (tk c : Nat), StrSet P w h' s.heap.objs.size (fun j => decide (j ∈ ns)) c → c ≤ ns.length → (∀ b o, s.heap.get? b = some o → h'.get? b = some o) → Wq (.ref s.heap.objs.size) { s with heap := h', toks := tk }) :
    wpAny (model P w) A (call (.type "set") [.ref l]) Wq Ex s := by
  have hisz : items.size = ns.length := by
    have q := StrsAre.length hit
    rw [Array.length_toList] at q
    exact q
  obtain ⟨c, tl, hmro⟩ := F.called_set.mro
  have hmade := F.called_set.made
  have hsub := F.called_set.sub
  refine wpAny_call (codeAny_of_tree ?_)
  show wpAny _ _ (callAny (.type "set") _) _ _ _
  refine wpAny_pure ⟨Code.quiet_builtin _ (by decide +kernel), codeAny_builtin F.entry_type_call ?_⟩
  rw [Around.under_plain (weight_type_call_type "set" [.ref l] []) rfl]
  have h1 := F.called_set.notType
  have h2 := F.called_set.canCreate
  have hct := F.typeCall_set_1 (.ref l)
  repeat (any_goals (first | assumption | wp_step))

  refine codeAny_mono (code_set_led1 (.ref l) (E := Ex) (Q₁ := fun obj s₁ => obj = .ref s.heap.objs.size ∧ s₁ = { s with heap := s.heap.push { cls := .type "set", dict := none, data := .set #[] 0 (.fresh 0 0 (!w.params.followText "set-order")) } }) ⟨rfl, rfl⟩) fun r s₁ hr => ?_
  cases r with
  | error e => exact hr
  | ok fl =>
    cases fl with
    | ret obj =>
      obtain ⟨rfl, rfl⟩ := hr
      have hS : (s.heap.push { cls := .type "set", dict := none, data := .set #[] 0 (.fresh 0 0 (!w.params.followText "set-order")) }).get? s.heap.objs.size = some { cls := .type "set", dict := none, data := .set #[] 0 (.fresh 0 0 (!w.params.followText "set-order")) } := Heap.get?_push_size _ rfl
      have hT : Shared.TypeIs { s with heap := s.heap.push { cls := .type "set", dict := none, data := .set #[] 0 (.fresh 0 0 (!w.params.followText "set-order")) } } (.ref s.heap.objs.size) "set" := ⟨_, hS, rfl⟩
      have hli := F.called_set.init.lookup
      have hbi := F.called_set.init.bind (.ref s.heap.objs.size)
      repeat (any_goals (first | assumption | wp_step))

      refine codeAny_mono (codeAny_call_builtin (R := wants (fun r s₂ => r = .none ∧ ∃ h' tk c, s₂ = { s with heap := h', toks := tk } ∧ StrSet P w h' s.heap.objs.size (fun j => decide (j ∈ ns)) c ∧ c ≤ ns.length ∧
          (∀ b o, s.heap.get? b = some o → h'.get? b = some o)) Ex) F.called_set.init.plain F.entry_set_init (check_set_init_1 hT ?_)) fun r₂ s₂ hr₂ => ?_
      · obtain ⟨ol, hol, hcl, nl, hdl⟩ := led1
        obtain ⟨ocls, odict, odata, oslots⟩ := ol
        simp only at hcl hdl
        subst hcl; subst hdl
        have hol' : (s.heap.push { cls := .type "set", dict := none, data := .set #[] 0 (.fresh 0 0 (!w.params.followText "set-order")) }).get? l = some { cls := .type "list", dict := odict, data := .seq items nl, slots := oslots } := Heap.get?_push_of_some _ hol
        have hsls := F.sub_list_set
        have hslf := F.sub_list_frozenset
        have hne : (Value.type "list" == Value.type "dict") = false := by decide
        have hl1 : (s.heap.push { cls := .type "set", dict := none, data := .set #[] 0 (.fresh 0 0 (!w.params.followText "set-order")) }).IsList l items := ⟨_, hol', rfl, nl, rfl⟩
        unfold Builtin.«set.__init__» noKeywords Builtin.Frozenset.updateFrom
        generalize hPI : pyIter = PI
        wp_walk
        subst hPI

        refine wpAny_pyIter_list hl1 ?_
        refine wpAny_bind (wpAny_runValue ?_)
        have hlS : l < s.heap.objs.size := Heap.lt_size hol
        have hh3 : A.in1.in1.in1.handled = none := by simp [hh]
        have hz1 : (s.heap.push { cls := .type "set", dict := none, data := .set #[] 0 (.fresh 0 0 (!w.params.followText "set-order")) }).objs.size = s.heap.objs.size + 1 := Heap.size_push ..
        have hneI : l ≠ (s.heap.push { cls := .type "set", dict := none, data := .set #[] 0 (.fresh 0 0 (!w.params.followText "set-order")) }).objs.size := by
          rw [Heap.size_push]; exact Nat.ne_of_lt (Nat.lt_succ_of_lt hlS)
        have hSf : s.heap.objs.size ∉ [(s.heap.push { cls := .type "set", dict := none, data := .set #[] 0 (.fresh 0 0 (!w.params.followText "set-order")) }).objs.size, l] := by
          rw [Heap.size_push]; simp only [List.mem_cons, List.mem_singleton, List.not_mem_nil, or_false, not_or]
          exact ⟨Nat.ne_of_lt (Nat.lt_succ_self _), Nat.ne_of_gt hlS⟩
        have hval : ∀ (i : Nat) (v : Value), items[i]? = some v → ∃ k t, ns[i]? = some k ∧ v = .str k t := fun i v hv => by
          have hi : i < ns.length := by rw [← hisz]; exact (Array.getElem?_eq_some_iff.mp hv).1
          obtain ⟨t, e⟩ := SS.strs_at hit i v (by rw [Array.getElem?_toList]; exact hv)
          refine ⟨ns[i], t, List.getElem?_eq_getElem hi, ?_⟩
          rw [e, List.getD_eq_getElem?_getD, List.getElem?_eq_getElem hi] <;> rfl
        refine strset_loop ((Walks.list hh3 _ l hneI items).toS) s.heap.objs.size
          hSf ns hisz few hval (items.size - 0) 0 _ (by omega) (Nat.zero_le _)
          ⟨⟨_, Heap.get?_push_size _ rfl, rfl, rfl⟩, (hl1.push _)⟩ ?hS0 ?hR
        case hS0 =>
          have hget : ((s.heap.push { cls := .type "set", dict := none, data := .set #[] 0 (.fresh 0 0 (!w.params.followText "set-order")) }).push { cls := .type "list_iterator", data := .fields #[.ref l, .int 0 0] }).get? s.heap.objs.size
              = some { cls := .type "set", dict := none, data := .set #[] 0 (.fresh 0 0 (!w.params.followText "set-order")) } := Heap.get?_push_of_some _ hS
          exact ⟨0, Nat.le_refl 0, strset_new hget⟩
        case hR =>
          intro s' c' mem hc' hS'
          obtain ⟨h', g2, d', tk', os'⟩ := s'
          have eg : g2 = s.gens := mem.gens
          have ed : d' = s.drawn := mem.drawn
          have eo : os' = s.os := mem.os
          subst eg; subst ed; subst eo
          show wpAny _ _ _ _ _ _
          refine wpAny_pure ?_
          show wpAny _ _ (ret Value.none) _ _ _
          rw [hisz] at hc'
          refine wpAny_pure ⟨rfl, h', tk', c', rfl, hS', hc', fun b o e => ?_⟩
          have hb0 : b < s.heap.objs.size := Heap.lt_size e
          have hb1 : b ≠ s.heap.objs.size := Nat.ne_of_lt hb0
          have hb2 : b ≠ (s.heap.push { cls := .type "set", dict := none, data := .set #[] 0 (.fresh 0 0 (!w.params.followText "set-order")) }).objs.size := by
            rw [Heap.size_push]; exact Nat.ne_of_lt (Nat.lt_succ_of_lt hb0)
          exact mem.heap b o (by simp only [List.mem_cons, List.mem_singleton, List.not_mem_nil, or_false, not_or]; exact ⟨hb1, hb2⟩) (Heap.get?_push_of_some _ (Heap.get?_push_of_some _ e))

      · cases r₂ with
        | error e => exact hr₂
        | ok fl₂ =>
          cases fl₂ with
          | ret r =>
            obtain ⟨rfl, h', tk, c', rfl, hS', hc', hk'⟩ := hr₂
            repeat (any_goals (first | assumption | wp_step))
            exact h _ _ _ hS' hc' hk'
          | _ => exact hr₂.elim
    | _ => exact hr.elim


theorem txts_of : ∀ (l : List Value), (∀ v ∈ l, ∃ k tk, v = Value.str k tk) → StrsAre l (l.map rawT)
  | [], _ => .nil
  | v :: l, h => by
    obtain ⟨k, tk, rfl⟩ := h v List.mem_cons_self
    exact .cons k tk (txts_of l fun u hu => h u (List.mem_cons_of_mem _ hu))
theorem sorted_strset {Wq : Value → Shared → Prop} (R : StrSet P w s.heap a S n) (calm : A.handled = none) (h64 : n < 64)
    (fin : ∀ s' p (out : Array Value) (c : Nat) (ys : List Str), (∀ b o, s.heap.get? b = some o → s'.heap.get? b = some o) → s'.gens = s.gens → s'.os = s.os → s.heap.objs.size ≤ p →
      s'.heap.get? p = some (seqObj "list" out c) → StrsAre out.toList ys → sortedS ys = true → ys.Nodup → (∀ k, k ∈ ys ↔ S k = true) → ys.length = n → Wq (.ref p) s') :
    wpAny (model P w) A (call (.builtin "sorted") [.ref a]) Wq Ex s := by
  obtain ⟨o, es, ep, t, got, exact1, dat, g, nd, mem, few, hf, hn, hr, led1⟩ := R
  refine Calls.call_function_entry kind_sorted plain_sorted entry_sorted (args_sorted1 _) ?_
  unfold Builtin.«sorted»
  refine wpAny_bind (m := checkCount "sorted" 1 1 _) (wpAny_pure ?_)
  refine wpAny_bind (collect_set (A := A.in1) calm ⟨o, got, exact1.1, dat⟩ hf few hr led1 fun s1 vs k1 hz g1 o1 pm => ?_)
  have long : vs.length = n := by rw [pm.length_eq, List.length_map, Array.length_toList]; exact hn
  have txts : StrsAre vs (vs.map rawT) := txts_of vs fun v hv => by
    obtain ⟨e, he, q⟩ := List.mem_map.mp (pm.mem_iff.mp hv)
    obtain ⟨k, tk, h1, _⟩ := g e he
    exact ⟨k, tk, by rw [← q]; exact h1⟩
  have same : (vs.map rawT).Perm (es.toList.map txtOf) := by
    have q := pm.map rawT
    rw [List.map_map] at q
    exact q
  refine wpAny_bind (wpAny_newList ?_ (by rw [long, sizeLine_eq]; omega))
  have hoL : (s1.heap.push (seqObj "list" vs.toArray 0)).get? s1.heap.objs.size = some (seqObj "list" vs.toArray 0) := Heap.get?_push_size _ rfl
  refine wpAny_bind (wpAny_holding (wpAny_call_entry slot_list_sort ⟨_, hoL, rfl⟩ entry_list_sort (list_sort_treeK strKind_oneLt hoL txts.keysOf (fun v1 v2 rest e => keyKind_strs (by rw [← e]; exact txts)) (by rw [long]; exact h64) fun st' hp hs => ⟨_, rfl, ?_⟩) (args_list_sort _)))
  obtain ⟨ys, a1, a2, a3⟩ := sorted_out_str txts hp hs
  obtain ⟨c, hc⟩ := sortedHeap_at (vs := vs) (out := (arrOf st').map (·.2)) hoL
  have pn : ys.Perm (es.toList.map txtOf) := a2.trans same
  refine wpAny_pure ⟨_, rfl, fin _ s1.heap.objs.size _ c ys (fun b u e => ?_) g1 o1 hz hc a1 a3 (pn.nodup_iff.mpr nd) (fun k => by rw [pn.mem_iff, ← mem k]) (by rw [pn.length_eq, List.length_map, Array.length_toList]; exact hn)⟩
  have q := k1 b u e
  have less := Heap.lt_size q
  show (sortedHeap (s1.heap.push (seqObj "list" vs.toArray 0)) s1.heap.objs.size vs _).get? b = some u
  rw [sortedHeap_old (Nat.ne_of_lt less) (by rw [size_push']; exact Nat.lt_succ_of_lt less)]
  exact Heap.get?_push_of_some _ q
end
end Tr

set_option Elab.async false
set_option linter.all false
set_option maxRecDepth 100000
set_option maxHeartbeats 4000000
namespace Tr
open PySem PySem.Spec PyProof.Rows L2
def StrSetO (P : Program) (w : World) (a : Addr) (S : Str → Bool) (n : Nat) : HO := .ext fun h => StrSet P w h a S n
section
variable {X : Cx}
theorem strsetO_new {P : Program} {w : World} {H : Hp} {h : Heap} {a : Addr} {S : Str → Bool} {n : Nat} (R : StrSet P w h a S n) : ObjOk P w H h a (StrSetO P w a S n) :=
  ⟨R, (by obtain ⟨o, _, _, _, g, _⟩ := R; exact ⟨o, g⟩), fun _ _ p k => StrSet.at p k⟩
def rStrSet (K : PySem.W.Frag) (P : Program) (w : World) : List V → Hp → VK → Prop := fun xs H Q => ∃ (a : Addr) (ns : List Str), xs = [V.ref a] ∧ SqL K H a (ns.map V.str) ∧ ns.length < 64 ∧
  ∀ (p : Addr) (c : Nat), H p = none → c ≤ ns.length → Q (.ref p) (upd H p (StrSetO P w p (fun j => decide (j ∈ ns)) c))
theorem cr_strset (hc : X.calm = true) : CallR X (.type "set") (rStrSet X.K X.prog X.w) := by
  intro pins s sg H xs us Q I r h
  obtain ⟨a, ns, rfl, hs, h64, q⟩ := h
  obtain ⟨its, rv, pl, _⟩ := I.list hs
  rw [Vals.ref1 r]
  refine call_strset ns (I.ok.hd hc) pl.isList (by simpa using rv.strs) (Nat.lt_trans (Nat.succ_lt_succ h64) (by decide)) fun h' tk c R hc' k => ?_
  exact ⟨.ref s.heap.objs.size, _, I.laid (t' := tk) k (Nat.le_refl _) (strsetO_new R), rfl, q _ c (I.hok.fresh (Nat.le_refl _)) hc'⟩
def rStrSort (P : Program) (w : World) : List V → Hp → VK → Prop := fun xs H Q => ∃ (a : Addr) (S : Str → Bool) (n : Nat), xs = [V.ref a] ∧ H a = some (StrSetO P w a S n) ∧ n < 64 ∧
  ∀ (ys : List Str) (p : Addr), sortedS ys = true → ys.Nodup → (∀ k, k ∈ ys ↔ S k = true) → H p = none → Q (.ref p) (upd H p (.lst (ys.map V.str)))
theorem cr_strsort (hc : X.calm = true) : CallR X (.builtin "sorted") (rStrSort X.prog X.w) := by
  intro pins s sg H vs us Q I r h
  obtain ⟨a, S, n, rfl, ha, h64, q⟩ := h
  have R : StrSet X.prog X.w s.heap a S n := (I.hok a _ ha).1
  rw [Vals.ref1 r]
  refine sorted_strset R (I.ok.hd hc) h64 fun s' p out c ys k g o hp at1 txts up nd mem long => ?_
  have few : (ys.map V.str).length ≤ sizeLine := by rw [List.length_map, long]; exact small64 h64
  have hn : H p = none := I.hok.fresh hp
  have J : Inv X pins sg (upd H p (.lst (ys.map V.str))) { s with heap := s'.heap, gens := s'.gens, drawn := s'.drawn, toks := s'.toks } :=
    I.call (ch := []) (Un.laid k hp hn) (I.hok.laid k hp ⟨few, out.toList, c, vals_of_strs txts, at1⟩) (by rw [g]; exact I.bare) (fun _ z => nomatch z)
  have e : s' = { s with heap := s'.heap, gens := s'.gens, drawn := s'.drawn, toks := s'.toks } := by
    obtain ⟨_, _, _, _, _⟩ := s'
    obtain ⟨_, _, _, _, _⟩ := s
    cases o
    rfl
  rw [e]
  exact ⟨.ref p, _, J, rfl, q ys p up nd mem hn⟩
end
theorem dedup_mem {x : Str} : ∀ l : List Str, x ∈ dedupS l ↔ x ∈ l
  | [] => Iff.rfl
  | y :: r => by
    unfold dedupS
    have ih := dedup_mem (x := x) r
    split
    · rename_i h
      have hy : y ∈ r := by simpa using h
      rw [ih, List.mem_cons]
      exact ⟨.inr, fun z => z.elim (fun e => e ▸ hy) id⟩
    · rw [List.mem_cons, List.mem_cons, ih]
theorem dedup_nodup : ∀ l : List Str, (dedupS l).Nodup
  | [] => .nil
  | y :: r => by
    unfold dedupS
    split
    · exact dedup_nodup r
    · rename_i h
      refine List.nodup_cons.mpr ⟨fun z => h ?_, dedup_nodup r⟩
      simpa using (dedup_mem r).mp z
section
variable {X : Cx} {T : List (Addr × Str)} {W : WX} {e : Expr} {pos pos' p q : Pos} {es : List Expr} {fr : AF}
theorem d_sortset (hc : X.calm = true) (hg : Gl X "sorted") (hm : X.mg "sorted" = none) (hg' : Gl X "set") (hm' : X.mg "set" = none) (ha : DA X T W (e :: es) fr)
    (he : starEach (e :: es) X.env = (false, eval e X.env) :: starEach es X.env := by rfl) (hpl : (backTo pos' (starEach es X.env)).any (·.1) = false := by rfl)
    (he2 : starEach [.Call (.Name "set" q) (e :: es) [] pos'] X.env = (false, eval (.Call (.Name "set" q) (e :: es) [] pos') X.env) :: starEach [] X.env := by rfl) (hpl2 : (backTo pos (starEach [] X.env)).any (·.1) = false := by rfl) :
    DE X T W (.Call (.Name "sorted" p) [.Call (.Name "set" q) (e :: es) [] pos'] [] pos) (eCB gSortSet fr) :=
  pe_imp (pe_callB (cr_strsort hc) hg hm boot_sorted (pa_cons (pe_callTy (cr_strset hc) hg' hm' boot_set ha (by decide) (by decide) he hpl) pa_nil he2) (by decide) (by decide) he2 hpl2) fun sg H Q ⟨rho, env, M, r, e, h⟩ =>
    ⟨rho, env, M, r, e, Fin.mono (Fin.bind h) fun ds r1 M1 H1 p1 q1 h1 vs rv => by
      unfold gSortSet at h1
      split at h1
      · rename_i x
        obtain ⟨v, rfl, rx⟩ := reps_one rv
        split at h1
        · rename_i ys ht hs
          split at h1
          · rename_i ns hn
            split at h1
            · rename_i h64
              obtain ⟨l, ws, rfl, s1, s2⟩ := seq_l q1 rx hs ht
              have en := strsD_eq hn
              subst en
              rw [reps_strs s2] at s1
              refine ⟨l, ns, rfl, s1, h64, fun a c ha hc => ?_⟩
              refine ⟨a, _, c, rfl, upd_same, Nat.lt_of_le_of_lt hc h64, fun zs b up nd mem hb => ?_⟩
              have same : zs.Perm (dedupS ns) := (List.perm_ext_iff_of_nodup nd (dedup_nodup ns)).mpr fun k => by rw [mem k, dedup_mem]; simp
              rw [up_eq (same.trans (sortS_perm _).symm) (sortedS_up up) (sortS_up _)]
              have z := newL_ok (G := gm X T) (q1.side ha) (reps_mapS (sortS (dedupS ns))) (Fin.post h1 (Post.side ha)) b hb
              exact z.1 _ z.2
            · exact h1.elim
          · exact h1.elim
        · exact h1.elim
      · exact h1.elim⟩
end
end Tr

set_option Elab.async false
set_option linter.all false
set_option maxRecDepth 100000
set_option maxHeartbeats 4000000
namespace Lw
open PySem PySem.Spec PyProof.Rows L2 Tr
def top (i : Nat) : Stmt := PySem.Challenge.pw_tablebills_k79_names_turned.main.body.getD i (.Pass ⟨0, 0, 0, 0⟩)
def tab_ROWS_AT : KTab := [("ask", (.ktup [(.int (4))])), ("even", (.ktup [(.int (1))]))]
def tab_WORDS_AT : KTab := [("sit", (.ktup [(.int (1)), (.int (2))])), ("move", (.ktup [(.int (1)), (.int (2))])), ("join", (.ktup [(.int (1)), (.int (2))])), ("go", (.ktup [(.int (1))])), ("fire", (.ktup [(.int (1))])), ("rush", (.ktup [(.int (1))])), ("pay", (.ktup [(.int (1))])), ("take", (.ktup [(.int (1)), (.int (2))]))]
def B__law_feed : SF := (sRet (eLst (aCons (eCB gList (aCons (eSl (eVar 0) oNone (oSome (eK (.int (63))))) aNil)) (aCons (eK (.int (0))) (aCons (eK (.int (0))) aNil)))))
def F__law_feed : FF := runB 1 B__law_feed
def B__law_next : SF := (sSeq (sIf (tOf (eBin gGt (eBin gIx (eVar 0) (eK (.int (2)))) (eK (.int (0))))) (sSeq (sSet 2 (eBin gMod (eBin gIx (eVar 0) (eK (.int (2)))) (eVar 1)))
  (sSeq (sAsg (eBin gFdiv (eBin gIx (eVar 0) (eK (.int (2)))) (eVar 1)) (gtSub (eVar 0) (eK (.int (2)))))
  (sRet (eVar 2)))) sPass)
  (sSeq (sSet 3 (eBin gIx (eVar 0) (eK (.int (1)))))
  (sSeq (sAsg (eBin gAdd (eVar 3) (eK (.int (1)))) (gtSub (eVar 0) (eK (.int (1)))))
  (sSeq (sSet 4 (eIf (tOf (eBin gNe (eBin gIx (eVar 0) (eK (.int (0)))) (eLst aNil))) (eBin gIx (eBin gIx (eVar 0) (eK (.int (0)))) (eBin gMod (eVar 3) (eCB gLen (aCons (eBin gIx (eVar 0) (eK (.int (0)))) aNil)))) (eK (.int (0)))))
  (sSeq (sIf (tAndD (tOf (eBin gGe (eVar 4) (eBin gPow (eK (.int (10))) (eK (.int (18)))))) (tOf (eBin gLt (eVar 3) (eCB gLen (aCons (eBin gIx (eVar 0) (eK (.int (0)))) aNil))))) (sSeq (sAsg (eBin gFdiv (eVar 4) (eVar 1)) (gtSub (eVar 0) (eK (.int (2)))))
  (sRet (eBin gMod (eVar 4) (eVar 1)))) sPass)
  (sSeq (sSet 5 (eBin gMod (eBin gMul (eBin gAdd (eBin gAdd (eBin gAdd (eBin gMod (eVar 4) (eK (.int (1000003)))) (eBin gMul (eBin gMul (eK (.int (37))) (eVar 3)) (eVar 3))) (eBin gMul (eK (.int (13))) (eVar 3))) (eK (.int (5)))) (eK (.int (48271)))) (eK (.int (999983)))))
  (sRet (eBin gMod (eBin gFdiv (eBin gMod (eBin gMul (eBin gMod (eBin gAdd (eBin gAdd (eBin gMul (eVar 5) (eVar 5)) (eBin gMul (eK (.int (7919))) (eVar 3))) (eK (.int (11)))) (eK (.int (2097143)))) (eK (.int (69621)))) (eK (.int (2147483629)))) (eK (.int (7)))) (eVar 1)))))))))
def F__law_next : FF := runB 6 B__law_next
def B__law_words : SF := (sRet (eLc (iRng1D (aCons (eVar 1) aNil)) [3] (gtName 3) tfYes (eMt "list" gPopAt (eVar 2) (aCons (eCall 2 0 [.p 0, .p 1] [] F__law_next (aCons (eVar 0) (aCons (eCB gLen (aCons (eVar 2) aNil)) aNil)) aNil) aNil))))
def F__law_words : FF := runB 4 B__law_words
def B__law_prices : SF := (sSeq (sPar 1 2 (aCons (eLst (aCons (eTup (aCons (eK (.int (0))) (aCons (eBin gIx (eLst (aCons (eK (.int (0))) (aCons (eK (.int (1))) (aCons (eK (.int (99))) (aCons (eCall 2 0 [.p 0, .p 1] [] F__law_next (aCons (eVar 0) (aCons (eK (.int (1000))) aNil)) aNil) (aCons (eCall 2 0 [.p 0, .p 1] [] F__law_next (aCons (eVar 0) (aCons (eK (.int (100001))) aNil)) aNil) aNil)))))) (eCall 2 0 [.p 0, .p 1] [] F__law_next (aCons (eVar 0) (aCons (eK (.int (5))) aNil)) aNil)) aNil))) aNil)) (aCons (eK (.int (0))) aNil)))
  (sSeq (sFor (iRng1D (aCons (eBin gIx (eLst (aCons (eK (.int (0))) (aCons (eK (.int (0))) (aCons (eK (.int (1))) (aCons (eK (.int (3))) aNil))))) (eCall 2 0 [.p 0, .p 1] [] F__law_next (aCons (eVar 0) (aCons (eK (.int (4))) aNil)) aNil)) aNil)) (gtName 3) (sSeq (sSet 2 (eBin gAdd (eBin gAdd (eVar 2) (eK (.int (1)))) (eCall 2 0 [.p 0, .p 1] [] F__law_next (aCons (eVar 0) (aCons (eK (.int (20))) aNil)) aNil)))
  (sExpr (eMt "list" gAppend (eVar 1) (aCons (eTup (aCons (eVar 2) (aCons (eCall 2 0 [.p 0, .p 1] [] F__law_next (aCons (eVar 0) (aCons (eK (.int (1000))) aNil)) aNil) aNil))) aNil)))))
  (sRet (eCB gTuple (aCons (eVar 1) aNil)))))
def F__law_prices : FF := runB 4 B__law_prices
def B__law_house : SF := (sSeq (sSet 1 (eCB gSorted (aCons (eCall 3 0 [.p 0, .p 1, .p 2] [] F__law_words (aCons (eVar 0) (aCons (eBin gAdd (eK (.int (1))) (eCall 2 0 [.p 0, .p 1] [] F__law_next (aCons (eVar 0) (aCons (eK (.int (4))) aNil)) aNil)) (aCons (eLst (aCons (eK (.str "a")) (aCons (eK (.str "ab")) (aCons (eK (.str "beer")) (aCons (eK (.str "soup")) (aCons (eK (.str "soups")) (aCons (eK (.str "tea")) (aCons (eK (.str "z")) aNil)))))))) aNil))) aNil) aNil)))
  (sSeq (sSet 2 (eCB gTuple (aCons (eLc (iSeq (eVar 1)) [7] (gtName 7) tfYes (eTup (aCons (eVar 7) (aCons (eCall 2 0 [.p 0, .p 1] [] F__law_next (aCons (eVar 0) (aCons (eK (.int (61))) aNil)) aNil) (aCons (eCall 1 0 [.p 0] [] F__law_prices (aCons (eVar 0) aNil) aNil) aNil))))) aNil)))
  (sSeq (sSet 3 (eLst aNil))
  (sSeq (sFor (iRng1D (aCons (eCall 2 0 [.p 0, .p 1] [] F__law_next (aCons (eVar 0) (aCons (eK (.int (3))) aNil)) aNil) aNil)) (gtName 4) (sSeq (sSet 5 (eCB gTuple (aCons (eLc (iSeq (eVar 1)) [7] (gtName 7) (tOf (eBin gEq (eCall 2 0 [.p 0, .p 1] [] F__law_next (aCons (eVar 0) (aCons (eK (.int (2))) aNil)) aNil) (eK (.int (0))))) (eVar 7)) aNil)))
  (sSeq (sSet 6 (eBin gIx (eLst (aCons (eK (.int (0))) (aCons (eCall 2 0 [.p 0, .p 1] [] F__law_next (aCons (eVar 0) (aCons (eK (.int (20))) aNil)) aNil) aNil))) (eCall 2 0 [.p 0, .p 1] [] F__law_next (aCons (eVar 0) (aCons (eK (.int (2))) aNil)) aNil)))
  (sExpr (eMt "list" gAppend (eVar 3) (aCons (eTup (aCons (eVar 5) (aCons (eVar 6) (aCons (eBin gAdd (eVar 6) (eCall 2 0 [.p 0, .p 1] [] F__law_next (aCons (eVar 0) (aCons (eK (.int (30))) aNil)) aNil)) (aCons (eBin gIx (eLst (aCons (eK (.int (0))) (aCons (eK (.int (50))) (aCons (eK (.int (100))) (aCons (eCall 2 0 [.p 0, .p 1] [] F__law_next (aCons (eVar 0) (aCons (eK (.int (101))) aNil)) aNil) aNil))))) (eCall 2 0 [.p 0, .p 1] [] F__law_next (aCons (eVar 0) (aCons (eK (.int (4))) aNil)) aNil)) aNil))))) aNil))))))
  (sRet (eTup (aCons (eVar 2) (aCons (eCB gTuple (aCons (eVar 3) aNil)) (aCons (eCall 2 0 [.p 0, .p 1] [] F__law_next (aCons (eVar 0) (aCons (eK (.int (121))) aNil)) aNil) (aCons (eBin gAdd (eK (.int (1))) (eCall 2 0 [.p 0, .p 1] [] F__law_next (aCons (eVar 0) (aCons (eK (.int (9))) aNil)) aNil)) aNil))))))))))
def F__law_house : FF := runB 8 B__law_house
def B__law_guests : SF := (sSeq (sSet 1 (eCB gSorted (aCons (eCall 3 0 [.p 0, .p 1, .p 2] [] F__law_words (aCons (eVar 0) (aCons (eBin gAdd (eK (.int (2))) (eCall 2 0 [.p 0, .p 1] [] F__law_next (aCons (eVar 0) (aCons (eK (.int (3))) aNil)) aNil)) (aCons (eLst (aCons (eK (.str "a")) (aCons (eK (.str "ann")) (aCons (eK (.str "anna")) (aCons (eK (.str "b")) (aCons (eK (.str "bo")) (aCons (eK (.str "bob")) (aCons (eK (.str "l")) aNil)))))))) aNil))) aNil) aNil)))
  (sRet (eTup (aCons (eVar 1) (aCons (eCall 3 0 [.p 0, .p 1, .p 2] [] F__law_words (aCons (eVar 0) (aCons (eBin gAdd (eK (.int (2))) (eCall 2 0 [.p 0, .p 1] [] F__law_next (aCons (eVar 0) (aCons (eK (.int (2))) aNil)) aNil)) (aCons (eLst (aCons (eK (.str "l")) (aCons (eK (.str "left")) (aCons (eK (.str "r")) (aCons (eK (.str "ann")) aNil))))) aNil))) aNil) aNil)))))
def F__law_guests : FF := runB 2 B__law_guests
def B__law_dish_deed : SF := (sSeq (sSet 3 (eCall 2 0 [.p 0, .p 1] [] F__law_next (aCons (eVar 0) (aCons (eBin gAdd (eVar 2) (eK (.int (1)))) aNil)) aNil))
  (sSeq (sSet 4 (eBin gIx (eLst (aCons (eK (.str "serve")) (aCons (eK (.str "serve")) (aCons (eK (.str "back")) (aCons (eK (.str "strike")) (aCons (eK (.str "change")) aNil)))))) (eCall 2 0 [.p 0, .p 1] [] F__law_next (aCons (eVar 0) (aCons (eK (.int (5))) aNil)) aNil)))
  (sRet (eIf (tOf (eBin gEq (eVar 4) (eK (.str "change")))) (eTup (aCons (eVar 4) (aCons (eVar 3) (aCons (eBin gIx (eVar 1) (eCall 2 0 [.p 0, .p 1] [] F__law_next (aCons (eVar 0) (aCons (eCB gLen (aCons (eVar 1) aNil)) aNil)) aNil)) aNil)))) (eTup (aCons (eVar 4) (aCons (eVar 3) aNil)))))))
def F__law_dish_deed : FF := runB 5 B__law_dish_deed
def B__law_deed : SF := (sSeq (sAsg (eVar 2) (gtTup 2 (gtsCons (gtName 4) (gtsCons (gtName 5) gtsNil))))
  (sSeq (sPar 6 7 (aCons (eCall 2 0 [.p 0, .p 1] [] F__law_next (aCons (eVar 0) (aCons (eCB gLen (aCons (eVar 4) aNil)) aNil)) aNil) (aCons (eCall 2 0 [.p 0, .p 1] [] F__law_next (aCons (eVar 0) (aCons (eCB gLen (aCons (eVar 5) aNil)) aNil)) aNil) aNil)))
  (sSeq (sAsg (eTup (aCons (eBin gIx (eVar 4) (eVar 6)) (aCons (eBin gIx (eVar 4) (eBin gSub (eVar 6) (eK (.int (1))))) (aCons (eBin gIx (eVar 5) (eVar 7)) aNil)))) (gtTup 3 (gtsCons (gtName 8) (gtsCons (gtName 9) (gtsCons (gtName 10) gtsNil)))))
  (sSeq (sSet 11 (eCall 2 0 [.p 0, .p 1] [] F__law_next (aCons (eVar 0) (aCons (eK (.int (20))) aNil)) aNil))
  (sSeq (sSet 12 (eCB gTuple (aCons (eLc (iSeq (eVar 4)) [16] (gtName 16) (tOrD (tOf (eBin gEq (eVar 16) (eVar 8))) (tOf (eBin gEq (eCall 2 0 [.p 0, .p 1] [] F__law_next (aCons (eVar 0) (aCons (eK (.int (2))) aNil)) aNil) (eK (.int (0)))))) (eVar 16)) aNil)))
  (sSeq (sSet 13 (eBin gAdd (eK (.int (1))) (eBin gIx (eLst (aCons (eK (.int (0))) (aCons (eCall 2 0 [.p 0, .p 1] [] F__law_next (aCons (eVar 0) (aCons (eK (.int (50))) aNil)) aNil) (aCons (eCall 2 0 [.p 0, .p 1] [] F__law_next (aCons (eVar 0) (aCons (eK (.int (2000))) aNil)) aNil) aNil)))) (eCall 2 0 [.p 0, .p 1] [] F__law_next (aCons (eVar 0) (aCons (eK (.int (3))) aNil)) aNil))))
  (sSeq (sIf (tAndD (tOf (eBin gLt (eVar 11) (eK (.int (6))))) (tOf (eBin gLt (eVar 3) (eK (.int (12)))))) (sSeq (sSet 14 (eBin gSub (eVar 3) (eCB gInt1 (aCons (eAnd (eBin gGt (eVar 3) (eK (.int (0)))) (eBin gEq (eCall 2 0 [.p 0, .p 1] [] F__law_next (aCons (eVar 0) (aCons (eK (.int (9))) aNil)) aNil) (eK (.int (0))))) aNil))))
  (sRet (eTup (aCons (eK (.str "ask")) (aCons (eVar 14) (aCons (eBin gIx (eVar 1) (eCall 2 0 [.p 0, .p 1] [] F__law_next (aCons (eVar 0) (aCons (eCB gLen (aCons (eVar 1) aNil)) aNil)) aNil)) (aCons (eBin gMod (eVar 11) (eK (.int (3)))) (aCons (eVar 12) aNil)))))))) sPass)
  (sSeq (sIf (tOf (eBin gLt (eVar 11) (eK (.int (10))))) (sRet (eCall 3 0 [.p 0, .p 1, .p 2] [] F__law_dish_deed (aCons (eVar 0) (aCons (eVar 1) (aCons (eVar 3) aNil))) aNil)) sPass)
  (sSeq (sIf (tOf (eBin gLt (eVar 11) (eK (.int (13))))) (sRet (eTup (aCons (eBin gIx (eLst (aCons (eK (.str "fire")) (aCons (eK (.str "fire")) (aCons (eK (.str "rush")) aNil)))) (eBin gSub (eVar 11) (eK (.int (10))))) (aCons (eVar 10) (aCons (eCall 2 0 [.p 0, .p 1] [] F__law_next (aCons (eVar 0) (aCons (eK (.int (3))) aNil)) aNil) aNil))))) sPass)
  (sSeq (sIf (tOf (eBin gEq (eVar 11) (eK (.int (13))))) (sRet (eTup (aCons (eK (.str "even")) (aCons (eIf (tOf (eBin gGt (eCB gLen (aCons (eVar 12) aNil)) (eK (.int (1))))) (eVar 12) (eCB gTuple (aCons (eVar 4) aNil))) aNil)))) sPass)
  (sSeq (sSet 15 (eLst (aCons (eTup (aCons (eK (.str "sit")) (aCons (eVar 8) (aCons (eVar 10) aNil)))) (aCons (eTup (aCons (eK (.str "move")) (aCons (eVar 8) (aCons (eVar 10) aNil)))) (aCons (eTup (aCons (eK (.str "join")) (aCons (eVar 10) (aCons (eBin gIx (eVar 5) (eBin gSub (eVar 7) (eK (.int (1))))) aNil)))) (aCons (eTup (aCons (eK (.str "go")) (aCons (eVar 8) aNil))) aNil))))))
  (sRet (eBin gIx (eBin gAdd (eVar 15) (eLst (aCons (eTup (aCons (eK (.str "pay")) (aCons (eVar 8) (aCons (eVar 13) aNil)))) (aCons (eTup (aCons (eK (.str "take")) (aCons (eVar 8) (aCons (eVar 9) (aCons (eVar 13) aNil))))) aNil)))) (eBin gSub (eVar 11) (eK (.int (14)))))))))))))))))
def F__law_deed : FF := runB 17 B__law_deed
def B__law_pages : SF := (sSeq (sSet 4 (eLc (iSeq (eBin gIx (eVar 1) (eK (.int (0))))) [13] (gtName 13) tfYes (eBin gIx (eVar 13) (eK (.int (0))))))
  (sSeq (sAsg (eVar 2) (gtTup 2 (gtsCons (gtName 5) (gtsCons (gtName 6) gtsNil))))
  (sSeq (sSet 7 (eCall 2 0 [.p 0, .p 1] [] F__law_next (aCons (eVar 0) (aCons (eCB gLen (aCons (eVar 6) aNil)) aNil)) aNil))
  (sSeq (sSet 8 (eLc (iRng1D (aCons (eCB gLen (aCons (eVar 5) aNil)) aNil)) [11] (gtName 11) tfYes (eTup (aCons (eTup (aCons (eK (.int (0))) (aCons (eVar 11) aNil))) (aCons (eTup (aCons (eK (.str "sit")) (aCons (eBin gIx (eVar 5) (eVar 11)) (aCons (eBin gIx (eVar 6) (eBin gSub (eVar 7) (eBin gFdiv (eCall 2 0 [.p 0, .p 1] [] F__law_next (aCons (eVar 0) (aCons (eK (.int (5))) aNil)) aNil) (eK (.int (4)))))) aNil)))) aNil)))))
  (sSeq (sAsg (eTup (aCons (eK (.int (0))) (aCons (eK (.int (0))) aNil))) (gtTup 2 (gtsCons (gtName 9) (gtsCons (gtName 10) gtsNil))))
  (sSeq (sFor (iRng1D (aCons (eVar 3) aNil)) (gtName 11) (sSeq (sSet 9 (eBin gAdd (eVar 9) (eCall 2 0 [.p 0, .p 1] [] F__law_next (aCons (eVar 0) (aCons (eK (.int (4))) aNil)) aNil)))
  (sSeq (sSet 12 (eCall 4 0 [.p 0, .p 1, .p 2, .p 3] [] F__law_deed (aCons (eVar 0) (aCons (eVar 4) (aCons (eVar 2) (aCons (eVar 10) aNil)))) aNil))
  (sSeq (sSet 10 (eBin gAdd (eVar 10) (eCB gInt1 (aCons (eBin gEq (eSl (eVar 12) oNone (oSome (eK (.int (2))))) (eTup (aCons (eK (.str "ask")) (aCons (eVar 10) aNil)))) aNil))))
  (sExpr (eMt "list" gAppend (eVar 8) (aCons (eTup (aCons (eTup (aCons (eVar 9) (aCons (eCB gLen (aCons (eVar 8) aNil)) aNil))) (aCons (eVar 12) aNil))) aNil)))))))
  (sRet (eVar 8))))))))
def F__law_pages : FF := runB 14 B__law_pages
def B__law_pairs : SF := (sSeq (sSet 3 (eLst (aCons (eK (.str "a")) (aCons (eK (.str "aa")) (aCons (eK (.str "ann")) (aCons (eK (.str "ask")) (aCons (eK (.str "b")) (aCons (eK (.str "bob")) (aCons (eK (.str "c")) (aCons (eK (.str "even")) (aCons (eK (.str "go")) (aCons (eK (.str "l")) (aCons (eK (.str "m")) (aCons (eK (.str "nnnnnnnn")) (aCons (eK (.str "sit")) (aCons (eK (.str "y")) (aCons (eK (.str "z")) (aCons (eK (.str "zz")) aNil))))))))))))))))))
  (sSeq (sSet 4 (eCB gSorted (aCons (eCall 3 0 [.p 0, .p 1, .p 2] [] F__law_words (aCons (eVar 0) (aCons (eCB gLen (aCons (eVar 1) aNil)) (aCons (eVar 3) aNil))) aNil) aNil)))
  (sSeq (sSet 5 (eLc (iZip (aCons (eVar 1) (aCons (eVar 4) aNil))) [6, 7] (gtTup 2 (gtsCons (gtName 6) (gtsCons (gtName 7) gtsNil))) tfYes (eTup (aCons (eVar 6) (aCons (eVar 7) aNil)))))
  (sRet (eCB gTupleK (aCons (eSl (eVar 5) oNone (oSome (eVar 2))) aNil))))))
def F__law_pairs : FF := runB 8 B__law_pairs
def B_thing_renamed : SF := (sSeq (sIf (tOf (eBin gIn (eVar 1) (eKGet tab_WORDS_AT (eBin gIx (eVar 0) (eK (.int (0)))) (eTup aNil)))) (sRet (eMt "dict" gGet (eVar 2) (aCons (eBin gIx (eVar 0) (eVar 1)) (aCons (eBin gIx (eVar 0) (eVar 1)) aNil)))) sPass)
  (sSeq (sIf (tOf (eBin gIn (eVar 1) (eKGet tab_ROWS_AT (eBin gIx (eVar 0) (eK (.int (0)))) (eTup aNil)))) (sRet (eCB gTuple (aCons (eLc (iSeq (eBin gIx (eVar 0) (eVar 1))) [3] (gtName 3) tfYes (eMt "dict" gGet (eVar 2) (aCons (eVar 3) (aCons (eVar 3) aNil)))) aNil))) sPass)
  (sRet (eBin gIx (eVar 0) (eVar 1)))))
def F_thing_renamed : FF := runB 4 B_thing_renamed
def dfl_renamed : List D := [.non, (.int (0))]
def B_renamed : SF := (sSeq (sSet 3 (eIf (tOf (eBin gNotN (eVar 1) (eK .non))) (eCB gDict (aCons (eVar 1) aNil)) eDictK))
  (sSeq (sSet 4 (eLst aNil))
  (sSeq (sFor (iSeq (eVar 0)) (gtTup 2 (gtsCons (gtTup 2 (gtsCons (gtName 5) (gtsCons (gtName 6) gtsNil))) (gtsCons (gtName 7) gtsNil))) (sSeq (sSet 8 (eCB gTuple (aCons (eLc (iRng1D (aCons (eCB gLen (aCons (eVar 7) aNil)) aNil)) [9] (gtName 9) tfYes (eCall 3 0 [.p 0, .p 1, .p 2] [] F_thing_renamed (aCons (eVar 7) (aCons (eVar 9) (aCons (eVar 3) aNil))) aNil)) aNil)))
  (sExpr (eMt "list" gAppend (eVar 4) (aCons (eTup (aCons (eTup (aCons (eBin gAdd (eVar 5) (eVar 2)) (aCons (eVar 6) aNil))) (aCons (eVar 8) aNil))) aNil)))))
  (sRet (eCB gTuple (aCons (eVar 4) aNil))))))
def F_renamed : FF := runB 10 B_renamed
def B__law_deed_by : SF := (sSeq (sIf (tOf (eBin gIn (eBin gIx (eVar 0) (eK (.int (0)))) (eTup (aCons (eK (.str "sit")) (aCons (eK (.str "move")) (aCons (eK (.str "join")) aNil)))))) (sRet (eTup (aCons (eBin gIx (eVar 0) (eK (.int (0)))) (aCons (eMt "dict" gGet (eVar 1) (aCons (eBin gIx (eVar 0) (eK (.int (1)))) (aCons (eBin gIx (eVar 0) (eK (.int (1)))) aNil))) (aCons (eMt "dict" gGet (eVar 1) (aCons (eBin gIx (eVar 0) (eK (.int (2)))) (aCons (eBin gIx (eVar 0) (eK (.int (2)))) aNil))) aNil))))) sPass)
  (sSeq (sIf (tOf (eBin gEq (eBin gIx (eVar 0) (eK (.int (0)))) (eK (.str "take")))) (sRet (eTup (aCons (eK (.str "take")) (aCons (eMt "dict" gGet (eVar 1) (aCons (eBin gIx (eVar 0) (eK (.int (1)))) (aCons (eBin gIx (eVar 0) (eK (.int (1)))) aNil))) (aCons (eMt "dict" gGet (eVar 1) (aCons (eBin gIx (eVar 0) (eK (.int (2)))) (aCons (eBin gIx (eVar 0) (eK (.int (2)))) aNil))) (aCons (eBin gIx (eVar 0) (eK (.int (3)))) aNil)))))) sPass)
  (sSeq (sIf (tOf (eBin gIn (eBin gIx (eVar 0) (eK (.int (0)))) (eTup (aCons (eK (.str "go")) (aCons (eK (.str "pay")) (aCons (eK (.str "fire")) (aCons (eK (.str "rush")) aNil))))))) (sRet (eBin gAdd (eTup (aCons (eBin gIx (eVar 0) (eK (.int (0)))) (aCons (eMt "dict" gGet (eVar 1) (aCons (eBin gIx (eVar 0) (eK (.int (1)))) (aCons (eBin gIx (eVar 0) (eK (.int (1)))) aNil))) aNil))) (eSl (eVar 0) (oSome (eK (.int (2)))) oNone))) sPass)
  (sSeq (sIf (tOf (eBin gEq (eBin gIx (eVar 0) (eK (.int (0)))) (eK (.str "even")))) (sRet (eTup (aCons (eK (.str "even")) (aCons (eCB gTuple (aCons (eLc (iSeq (eBin gIx (eVar 0) (eK (.int (1))))) [2] (gtName 2) tfYes (eMt "dict" gGet (eVar 1) (aCons (eVar 2) (aCons (eVar 2) aNil)))) aNil)) aNil)))) sPass)
  (sSeq (sIf (tOf (eBin gEq (eBin gIx (eVar 0) (eK (.int (0)))) (eK (.str "ask")))) (sRet (eBin gAdd (eSl (eVar 0) oNone (oSome (eK (.int (4))))) (eTup (aCons (eCB gTuple (aCons (eLc (iSeq (eBin gIx (eVar 0) (eK (.int (4))))) [2] (gtName 2) tfYes (eMt "dict" gGet (eVar 1) (aCons (eVar 2) (aCons (eVar 2) aNil)))) aNil)) aNil)))) sPass)
  (sRet (eVar 0)))))))
def F__law_deed_by : FF := runB 3 B__law_deed_by
def B__law_book_by : SF := (sSeq (sSet 3 (eCB gDict (aCons (eVar 1) aNil)))
  (sRet (eCB gTuple (aCons (eLc (iSeq (eVar 0)) [4, 5] (gtTup 2 (gtsCons (gtName 4) (gtsCons (gtName 5) gtsNil))) tfYes (eTup (aCons (eTup (aCons (eBin gAdd (eBin gIx (eVar 4) (eK (.int (0)))) (eVar 2)) (aCons (eBin gIx (eVar 4) (eK (.int (1)))) aNil))) (aCons (eCall 2 0 [.p 0, .p 1] [] F__law_deed_by (aCons (eVar 5) (aCons (eVar 3) aNil)) aNil) aNil)))) aNil))))
def F__law_book_by : FF := runB 6 B__law_book_by
def B_law : SF := (sSeq (sSet 1 (eCall 1 0 [.p 0] [] F__law_feed (aCons (eVar 0) aNil) aNil))
  (sSeq (sPar 2 3 (aCons (eCall 1 0 [.p 0] [] F__law_house (aCons (eVar 1) aNil) aNil) (aCons (eCall 1 0 [.p 0] [] F__law_guests (aCons (eVar 1) aNil) aNil) aNil)))
  (sSeq (sSet 4 (eCB gTuple (aCons (eCall 4 0 [.p 0, .p 1, .p 2, .p 3] [] F__law_pages (aCons (eVar 1) (aCons (eVar 2) (aCons (eVar 3) (aCons (eCall 2 0 [.p 0, .p 1] [] F__law_next (aCons (eVar 1) (aCons (eK (.int (17))) aNil)) aNil) aNil)))) aNil) aNil)))
  (sSeq (sSet 5 (eCB gSortSet (aCons (eBin gAdd (eBin gIx (eVar 3) (eK (.int (0)))) (eBin gIx (eVar 3) (eK (.int (1))))) aNil)))
  (sSeq (sFor (iRng1D (aCons (eK (.int (2))) aNil)) (gtName 6) (sSeq (sPar 7 8 (aCons (eCall 3 0 [.p 0, .p 1, .p 2] [] F__law_pairs (aCons (eVar 1) (aCons (eVar 5) (aCons (eCB gLen (aCons (eVar 5) aNil)) aNil))) aNil) (aCons (eBin gIx (eLst (aCons (eK (.int (0))) (aCons (eK (.int (1))) (aCons (eK (.int (7000))) (aCons (eCall 2 0 [.p 0, .p 1] [] F__law_next (aCons (eVar 1) (aCons (eK (.int (90))) aNil)) aNil) aNil))))) (eCall 2 0 [.p 0, .p 1] [] F__law_next (aCons (eVar 1) (aCons (eK (.int (4))) aNil)) aNil)) aNil)))
  (sSeq (sSet 9 (eCB gRepr (aCons (eTup (aCons (eVar 4) (aCons (eVar 7) aNil))) aNil)))
  (sSeq (sSet 10 (eCall 3 0 [.p 0, .p 1, .p 2] dfl_renamed F_renamed (aCons (eVar 4) (aCons (eVar 7) (aCons (eVar 8) aNil))) aNil))
  (sSeq (sIf (tOrD (tNotD (tOf (eCB gIsi (aCons (eVar 10) (aCons (eK (.ty "tuple")) aNil))))) (tOf (eBin gNe (eCB gRepr (aCons (eVar 10) aNil)) (eCB gRepr (aCons (eCall 3 0 [.p 0, .p 1, .p 2] [] F__law_book_by (aCons (eVar 4) (aCons (eVar 7) (aCons (eVar 8) aNil))) aNil) aNil))))) (sRet (eK (.bl false))) sPass)
  (sSeq (sIf (tOf (eBin gNe (eCB gRepr (aCons (eCall 0 3 [.k 1, .k 2, .k 0] dfl_renamed F_renamed aNil (aCons (eVar 8) (aCons (eVar 4) (aCons (eVar 7) aNil)))) aNil)) (eCB gRepr (aCons (eVar 10) aNil)))) (sRet (eK (.bl false))) sPass)
  (sSeq (sIf (tOf (eBin gNe (eCB gRepr (aCons (eCall 2 0 [.p 0, .p 1, .d 1] dfl_renamed F_renamed (aCons (eVar 4) (aCons (eVar 7) aNil)) aNil) aNil)) (eCB gRepr (aCons (eCall 3 0 [.p 0, .p 1, .p 2] [] F__law_book_by (aCons (eVar 4) (aCons (eVar 7) (aCons (eK (.int (0))) aNil))) aNil) aNil)))) (sRet (eK (.bl false))) sPass)
  (sSeq (sSet 11 (eCB gRepr (aCons (eCall 3 0 [.p 0, .p 1, .p 2] [] F__law_book_by (aCons (eVar 4) (aCons (eTupK aNil) (aCons (eVar 8) aNil))) aNil) aNil)))
  (sSeq (sIf (tOf (eBin gNe (eLst (aCons (eCB gRepr (aCons (eCall 1 1 [.p 0, .d 0, .k 0] dfl_renamed F_renamed (aCons (eVar 4) aNil) (aCons (eVar 8) aNil)) aNil)) (aCons (eCB gRepr (aCons (eCall 3 0 [.p 0, .p 1, .p 2] dfl_renamed F_renamed (aCons (eVar 4) (aCons (eK .non) (aCons (eVar 8) aNil))) aNil) aNil)) aNil))) (eLst (aCons (eVar 11) (aCons (eVar 11) aNil))))) (sRet (eK (.bl false))) sPass)
  (sSeq (sSet 12 (eCB gTupleK (aCons (eLc (iSeq (eVar 7)) [14, 15] (gtTup 2 (gtsCons (gtName 14) (gtsCons (gtName 15) gtsNil))) tfYes (eTup (aCons (eVar 15) (aCons (eVar 14) aNil)))) aNil)))
  (sSeq (sIf (tOf (eBin gNe (eCB gRepr (aCons (eCall 1 1 [.p 0, .k 0, .d 1] dfl_renamed F_renamed (aCons (eCall 1 1 [.p 0, .k 0, .d 1] dfl_renamed F_renamed (aCons (eVar 4) aNil) (aCons (eVar 7) aNil)) aNil) (aCons (eVar 12) aNil)) aNil)) (eCB gRepr (aCons (eVar 4) aNil)))) (sRet (eK (.bl false))) sPass)
  (sIf (tOf (eBin gNe (eCB gRepr (aCons (eTup (aCons (eVar 4) (aCons (eVar 7) aNil))) aNil)) (eVar 9))) (sRet (eK (.bl false))) sPass))))))))))))
  (sSeq (sSet 13 (eTupK (aCons (eTup (aCons (eBin gIx (eVar 5) (eUn gNeg (eK (.int (1))))) (aCons (eK (.str "zzz")) aNil))) aNil)))
  (sSeq (sIf (tOf (eBin gNe (eCB gRepr (aCons (eCall 2 0 [.p 0, .p 1, .d 1] dfl_renamed F_renamed (aCons (eVar 4) (aCons (eVar 13) aNil)) aNil) aNil)) (eCB gRepr (aCons (eCall 3 0 [.p 0, .p 1, .p 2] [] F__law_book_by (aCons (eVar 4) (aCons (eVar 13) (aCons (eK (.int (0))) aNil))) aNil) aNil)))) (sRet (eK (.bl false))) sPass)
  (sSeq (sSet 10 (eLst (aCons (eCall 1 0 [.p 0, .d 0, .d 1] dfl_renamed F_renamed (aCons (eVar 4) aNil) aNil) (aCons (eCall 2 0 [.p 0, .p 1, .d 1] dfl_renamed F_renamed (aCons (eVar 4) (aCons (eTupK aNil) aNil)) aNil) (aCons (eCall 1 1 [.p 0, .d 0, .k 0] dfl_renamed F_renamed (aCons (eTupK aNil) aNil) (aCons (eK (.int (3))) aNil)) aNil)))))
  (sRet (eBin gEq (eCB gRepr (aCons (eVar 10) aNil)) (eCB gRepr (aCons (eLst (aCons (eVar 4) (aCons (eVar 4) (aCons (eTupK aNil) aNil)))) aNil))))))))))))
def F_law : FF := runB 16 B_law
end Lw

set_option Elab.async false
set_option linter.all false
set_option maxRecDepth 100000
set_option maxHeartbeats 4000000
namespace Lw
open PySem PySem.Spec PyProof.Rows L2 Tr
--PROOFS
def d__law_feed : He.DefD := ⟨("_law_feed", none), "_law_feed", "_law_feed", defArgs (top 6), defBody (top 6), defScope (top 6), [], []⟩
def d__law_next : He.DefD := ⟨("_law_next", none), "_law_next", "_law_next", defArgs (top 7), defBody (top 7), defScope (top 7), [], []⟩
def d__law_words : He.DefD := ⟨("_law_words", none), "_law_words", "_law_words", defArgs (top 8), defBody (top 8), defScope (top 8), [], []⟩
def d__law_prices : He.DefD := ⟨("_law_prices", none), "_law_prices", "_law_prices", defArgs (top 9), defBody (top 9), defScope (top 9), [], []⟩
def d__law_house : He.DefD := ⟨("_law_house", none), "_law_house", "_law_house", defArgs (top 10), defBody (top 10), defScope (top 10), [], []⟩
def d__law_guests : He.DefD := ⟨("_law_guests", none), "_law_guests", "_law_guests", defArgs (top 11), defBody (top 11), defScope (top 11), [], []⟩
def d__law_dish_deed : He.DefD := ⟨("_law_dish_deed", none), "_law_dish_deed", "_law_dish_deed", defArgs (top 12), defBody (top 12), defScope (top 12), [], []⟩
def d__law_deed : He.DefD := ⟨("_law_deed", none), "_law_deed", "_law_deed", defArgs (top 13), defBody (top 13), defScope (top 13), [], []⟩
def d__law_pages : He.DefD := ⟨("_law_pages", none), "_law_pages", "_law_pages", defArgs (top 14), defBody (top 14), defScope (top 14), [], []⟩
def d__law_pairs : He.DefD := ⟨("_law_pairs", none), "_law_pairs", "_law_pairs", defArgs (top 15), defBody (top 15), defScope (top 15), [], []⟩
def d_thing_renamed : He.DefD := ⟨("thing_renamed", none), "thing_renamed", "thing_renamed", defArgs (top 3), defBody (top 3), defScope (top 3), [], []⟩
def d_renamed : He.DefD := ⟨("renamed", none), "renamed", "renamed", defArgs (top 4), defBody (top 4), defScope (top 4), [.non, .int (0)], []⟩
def d__law_deed_by : He.DefD := ⟨("_law_deed_by", none), "_law_deed_by", "_law_deed_by", defArgs (top 16), defBody (top 16), defScope (top 16), [], []⟩
def d__law_book_by : He.DefD := ⟨("_law_book_by", none), "_law_book_by", "_law_book_by", defArgs (top 17), defBody (top 17), defScope (top 17), [], []⟩
def d_law : He.DefD := ⟨("law", none), "law", "law", defArgs (top 18), defBody (top 18), defScope (top 18), [], []⟩
def fn : List He.DefD := [d__law_feed, d__law_next, d__law_words, d__law_prices, d__law_house, d__law_guests, d__law_dish_deed, d__law_deed, d__law_pages, d__law_pairs, d_thing_renamed, d_renamed, d__law_deed_by, d__law_book_by, d_law]
def fa : List He.Fa := [.glo "_law_feed", .glo "_law_next", .glo "_law_words", .glo "_law_prices", .glo "_law_house", .glo "_law_guests", .glo "_law_dish_deed", .glo "_law_deed", .glo "_law_pages", .glo "_law_pairs", .glo "thing_renamed", .glo "renamed", .glo "_law_deed_by", .glo "_law_book_by", .glo "law", .glo "ROWS_AT", .glo "WORDS_AT", .free "list", .free "len", .free "range", .free "tuple", .free "sorted", .free "int", .free "zip", .free "dict", .free "isinstance", .free "repr", .free "set"]
def hs : Hs := ⟨4, fa, fn, [("ROWS_AT", tab_ROWS_AT), ("WORDS_AT", tab_WORDS_AT)], fun _ => true⟩
structure Okd (P : Program) (w : World) (K : PySem.W.Frag) (mg : Str → Option Value) (base : Heap) (k : Nat) (x : Str) (ps : List Str) (F : FF) (fd : FuncData) : Prop where
  fg : FnG P w K [] mg base k (He.ga K x) fd ps F
  gl : mg x = some (.ref (He.ga K x))
  kp : PySem.W.keepIn K (.ref (He.ga K x)) = true
section
variable {w : World} {K : PySem.W.Frag} {mg : Str → Option Value} {base : Heap} {P : Program}
theorem sc__law_feed : FnScope ["_law_script"] ["_law_script"] (defScope (top 6)) := ⟨rfl, rfl, rfl, by decide +kernel, rfl, by decide +kernel, by decide +kernel⟩
theorem b__law_feed_1 {fd : FuncData} (F : FunD K "_law_feed" "_law_feed" (defArgs (top 6)) (defBody (top 6)) (defScope (top 6)) [] [] (He.ga K "_law_feed") fd) : BK K fd ["_law_script"] 1 [] [.p 0] [] := bk_no F fun kV doc pm an cdv ct us ws zs h1 h2 e => match us, ws, h1, h2, e with
  | [_], [], _, _, e => by
    cases e
    exact rfl
theorem ok__law_feed (c : hs.Says w K) (kin : K.In base) (G : base.Ns mainGlobals mg) : ∃ fd, FunD K "_law_feed" "_law_feed" (defArgs (top 6)) (defBody (top 6)) (defScope (top 6)) [] [] (He.ga K "_law_feed") fd ∧ Okd P w K mg base 1 "_law_feed" ["_law_script"] F__law_feed fd := by
  obtain ⟨fd, FD⟩ := c.d.def_ 0 (d := d__law_feed) rfl
  have z_list : mg "list" = none := He.free_ok kin G (c.d.fact 17 (f := .free "list") rfl)
  refine ⟨fd, FD, ?_, He.glo_ok kin G (c.d.fact 0 (f := .glo "_law_feed") rfl), FD.kp⟩
  exact fn_ofG FD sc__law_feed fun cdv A outer s H E ok =>
  (d_one (d_ret (d_lst (d_acons (d_ct (c_list ok.calm) (by rfl) z_list boot_list (d_acons (d_slice (d_var (i := 0) (pe_var rfl (.inl rfl))) d_onone (d_osome d_int)) d_anil)) (d_acons d_int (d_acons d_int d_anil))))))
theorem sc__law_next : FnScope ["_law_feed_here", "_law_many", "_law_digit", "_law_at", "_law_cell", "_law_first"] ["_law_feed_here", "_law_many"] (defScope (top 7)) := ⟨rfl, rfl, rfl, by decide +kernel, rfl, by decide +kernel, by decide +kernel⟩
theorem b__law_next_2 {fd : FuncData} (F : FunD K "_law_next" "_law_next" (defArgs (top 7)) (defBody (top 7)) (defScope (top 7)) [] [] (He.ga K "_law_next") fd) : BK K fd ["_law_feed_here", "_law_many"] 2 [] [.p 0, .p 1] [] := bk_no F fun kV doc pm an cdv ct us ws zs h1 h2 e => match us, ws, h1, h2, e with
  | [_, _], [], _, _, e => by
    cases e
    exact rfl
theorem ok__law_next (c : hs.Says w K) (kin : K.In base) (G : base.Ns mainGlobals mg) : ∃ fd, FunD K "_law_next" "_law_next" (defArgs (top 7)) (defBody (top 7)) (defScope (top 7)) [] [] (He.ga K "_law_next") fd ∧ Okd P w K mg base 1 "_law_next" ["_law_feed_here", "_law_many"] F__law_next fd := by
  obtain ⟨fd, FD⟩ := c.d.def_ 1 (d := d__law_next) rfl
  have z_len : mg "len" = none := He.free_ok kin G (c.d.fact 18 (f := .free "len") rfl)
  refine ⟨fd, FD, ?_, He.glo_ok kin G (c.d.fact 1 (f := .glo "_law_next") rfl), FD.kp⟩
  exact fn_ofG FD sc__law_next fun cdv A outer s H E ok =>
  (d_seq (d_if (dt_cmp o_gt (d_ix (r1 ok.room) (d_var (i := 0) (pe_var rfl (.inl rfl))) d_int (fun _ _ => rfl)) d_int (by rfl)) (d_seq (d_set (i := 2) (ps_set sc__law_next.nd rfl (.inl rfl) (d_bin o_mod (d_ix (r1 ok.room) (d_var (i := 0) (pe_var rfl (.inl rfl))) d_int (fun _ _ => rfl)) (d_var (i := 1) (pe_var rfl (.inl rfl))))))
  (d_seq (d_asg (d_bin o_fdiv (d_ix (r1 ok.room) (d_var (i := 0) (pe_var rfl (.inl rfl))) d_int (fun _ _ => rfl)) (d_var (i := 1) (pe_var rfl (.inl rfl)))) (d_gsub (W := WF) (r1 ok.room) (d_var (i := 0) (pe_var rfl (.inl rfl))) d_int))
  (d_one (d_ret (d_var (i := 2) (pe_var rfl (.inl rfl))))))) d_nil)
  (d_seq (d_set (i := 3) (ps_set sc__law_next.nd rfl (.inl rfl) (d_ix (r1 ok.room) (d_var (i := 0) (pe_var rfl (.inl rfl))) d_int (fun _ _ => rfl))))
  (d_seq (d_asg (d_bin o_add (d_var (i := 3) (pe_var rfl (.inl rfl))) d_int) (d_gsub (W := WF) (r1 ok.room) (d_var (i := 0) (pe_var rfl (.inl rfl))) d_int))
  (d_seq (d_set (i := 4) (ps_set sc__law_next.nd rfl (.inl rfl) (d_ifx (dt_cmp (o_ne (r64 ok.room)) (d_ix (r1 ok.room) (d_var (i := 0) (pe_var rfl (.inl rfl))) d_int (fun _ _ => rfl)) (d_lst d_anil) (by rfl)) (d_ix (r1 ok.room) (d_ix (r1 ok.room) (d_var (i := 0) (pe_var rfl (.inl rfl))) d_int (fun _ _ => rfl)) (d_bin o_mod (d_var (i := 3) (pe_var rfl (.inl rfl))) (d_cb c_len (by rfl) z_len boot_len (d_acons (d_ix (r1 ok.room) (d_var (i := 0) (pe_var rfl (.inl rfl))) d_int (fun _ _ => rfl)) d_anil))) (fun _ _ => rfl)) d_int)))
  (d_seq (d_if (dt_w (dw_and (dt_cmp o_ge (d_var (i := 4) (pe_var rfl (.inl rfl))) (d_bin o_pow d_int d_int) (by rfl)) (dw_and1 (dt_cmp (o_lt ok.room.units0) (d_var (i := 3) (pe_var rfl (.inl rfl))) (d_cb c_len (by rfl) z_len boot_len (d_acons (d_ix (r1 ok.room) (d_var (i := 0) (pe_var rfl (.inl rfl))) d_int (fun _ _ => rfl)) d_anil)) (by rfl))))) (d_seq (d_asg (d_bin o_fdiv (d_var (i := 4) (pe_var rfl (.inl rfl))) (d_var (i := 1) (pe_var rfl (.inl rfl)))) (d_gsub (W := WF) (r1 ok.room) (d_var (i := 0) (pe_var rfl (.inl rfl))) d_int))
  (d_one (d_ret (d_bin o_mod (d_var (i := 4) (pe_var rfl (.inl rfl))) (d_var (i := 1) (pe_var rfl (.inl rfl))))))) d_nil)
  (d_seq (d_set (i := 5) (ps_set sc__law_next.nd rfl (.inl rfl) (d_bin o_mod (d_bin o_mul (d_bin o_add (d_bin o_add (d_bin o_add (d_bin o_mod (d_var (i := 4) (pe_var rfl (.inl rfl))) d_int) (d_bin o_mul (d_bin o_mul d_int (d_var (i := 3) (pe_var rfl (.inl rfl)))) (d_var (i := 3) (pe_var rfl (.inl rfl))))) (d_bin o_mul d_int (d_var (i := 3) (pe_var rfl (.inl rfl))))) d_int) d_int) d_int)))
  (d_one (d_ret (d_bin o_mod (d_bin o_fdiv (d_bin o_mod (d_bin o_mul (d_bin o_mod (d_bin o_add (d_bin o_add (d_bin o_mul (d_var (i := 5) (pe_var rfl (.inl rfl))) (d_var (i := 5) (pe_var rfl (.inl rfl)))) (d_bin o_mul d_int (d_var (i := 3) (pe_var rfl (.inl rfl))))) d_int) d_int) d_int) d_int) d_int) (d_var (i := 1) (pe_var rfl (.inl rfl))))))))))))
theorem sc__law_words : FnScope ["_law_feed_here", "_law_many", "_law_left", "_law_k"] ["_law_feed_here", "_law_many", "_law_left"] (defScope (top 8)) := ⟨rfl, rfl, rfl, by decide +kernel, rfl, by decide +kernel, by decide +kernel⟩
theorem b__law_words_3 {fd : FuncData} (F : FunD K "_law_words" "_law_words" (defArgs (top 8)) (defBody (top 8)) (defScope (top 8)) [] [] (He.ga K "_law_words") fd) : BK K fd ["_law_feed_here", "_law_many", "_law_left"] 3 [] [.p 0, .p 1, .p 2] [] := bk_no F fun kV doc pm an cdv ct us ws zs h1 h2 e => match us, ws, h1, h2, e with
  | [_, _, _], [], _, _, e => by
    cases e
    exact rfl
theorem ok__law_words (c : hs.Says w K) (kin : K.In base) (G : base.Ns mainGlobals mg) : ∃ fd, FunD K "_law_words" "_law_words" (defArgs (top 8)) (defBody (top 8)) (defScope (top 8)) [] [] (He.ga K "_law_words") fd ∧ Okd P w K mg base 2 "_law_words" ["_law_feed_here", "_law_many", "_law_left"] F__law_words fd := by
  obtain ⟨fd, FD⟩ := c.d.def_ 2 (d := d__law_words) rfl
  obtain ⟨fd__law_next, D__law_next, O__law_next⟩ := ok__law_next (P := P) c kin G
  have f__law_next := O__law_next.fg
  have g__law_next := O__law_next.gl
  have k__law_next := O__law_next.kp
  have b__law_next_2 := b__law_next_2 D__law_next
  have z_len : mg "len" = none := He.free_ok kin G (c.d.fact 18 (f := .free "len") rfl)
  have z_range : mg "range" = none := He.free_ok kin G (c.d.fact 19 (f := .free "range") rfl)
  refine ⟨fd, FD, ?_, He.glo_ok kin G (c.d.fact 2 (f := .glo "_law_words") rfl), FD.kp⟩
  exact fn_ofG FD sc__law_words fun cdv A outer s H E ok =>
  (d_one (d_ret (d_lc ok.calm sc__law_words.nd (d_irng1 (by rfl) z_range (d_acons (d_var (i := 1) (pe_var rfl (.inl rfl))) d_anil)) (blkOk_by (own := [("_law_k", 3)]) (show blkC ["_law_feed_here", "_law_many", "_law_left", "_law_k"] (defScope (top 8)) _ _ = true from by decide +kernel)) (by decide) (fun _ _ _ _ _ => (d_gname (i := 3) (pg_name sc__law_words.nd rfl (.inl rfl)))) (fun _ _ _ _ _ => dt_yes) (fun _ _ _ _ _ => (d_mt PySem.F.plainAttrs_list PySem.F.slot_list_pop PySem.F.type_list_pop m_popAt (d_var (i := 2) (pe_var rfl (.inr (.inl rfl)))) (d_acons (d_call f__law_next (ok.room.mono (by decide)) ok.guards LamX.takes0 b__law_next_2 (fun _ _ => rfl) rfl (by rfl) g__law_next k__law_next (d_acons (d_var (i := 0) (pe_var rfl (.inr (.inl rfl)))) (d_acons (d_cb c_len (by rfl) z_len boot_len (d_acons (d_var (i := 2) (pe_var rfl (.inr (.inl rfl)))) d_anil)) d_anil))) d_anil))))))
theorem sc__law_prices : FnScope ["_law_feed_here", "_law_found", "_law_at", "_law_k"] ["_law_feed_here"] (defScope (top 9)) := ⟨rfl, rfl, rfl, by decide +kernel, rfl, by decide +kernel, by decide +kernel⟩
theorem b__law_prices_1 {fd : FuncData} (F : FunD K "_law_prices" "_law_prices" (defArgs (top 9)) (defBody (top 9)) (defScope (top 9)) [] [] (He.ga K "_law_prices") fd) : BK K fd ["_law_feed_here"] 1 [] [.p 0] [] := bk_no F fun kV doc pm an cdv ct us ws zs h1 h2 e => match us, ws, h1, h2, e with
  | [_], [], _, _, e => by
    cases e
    exact rfl
theorem ok__law_prices (c : hs.Says w K) (kin : K.In base) (G : base.Ns mainGlobals mg) : ∃ fd, FunD K "_law_prices" "_law_prices" (defArgs (top 9)) (defBody (top 9)) (defScope (top 9)) [] [] (He.ga K "_law_prices") fd ∧ Okd P w K mg base 2 "_law_prices" ["_law_feed_here"] F__law_prices fd := by
  obtain ⟨fd, FD⟩ := c.d.def_ 3 (d := d__law_prices) rfl
  obtain ⟨fd__law_next, D__law_next, O__law_next⟩ := ok__law_next (P := P) c kin G
  have f__law_next := O__law_next.fg
  have g__law_next := O__law_next.gl
  have k__law_next := O__law_next.kp
  have b__law_next_2 := b__law_next_2 D__law_next
  have z_range : mg "range" = none := He.free_ok kin G (c.d.fact 19 (f := .free "range") rfl)
  have z_tuple : mg "tuple" = none := He.free_ok kin G (c.d.fact 20 (f := .free "tuple") rfl)
  refine ⟨fd, FD, ?_, He.glo_ok kin G (c.d.fact 3 (f := .glo "_law_prices") rfl), FD.kp⟩
  exact fn_ofG FD sc__law_prices fun cdv A outer s H E ok =>
  (d_seq (d_par (i := 1) (j := 2) ok.calm sc__law_prices.nd rfl rfl (by decide) rfl rfl (d_acons (d_lst (d_acons (d_tup (d_acons d_int (d_acons (d_ix (r1 ok.room) (d_lst (d_acons d_int (d_acons d_int (d_acons d_int (d_acons (d_call f__law_next (ok.room.mono (by decide)) ok.guards ok.takes b__law_next_2 (fun _ _ => rfl) rfl (by rfl) g__law_next k__law_next (d_acons (d_var (i := 0) (pe_var rfl (.inl rfl))) (d_acons d_int d_anil))) (d_acons (d_call f__law_next (ok.room.mono (by decide)) ok.guards ok.takes b__law_next_2 (fun _ _ => rfl) rfl (by rfl) g__law_next k__law_next (d_acons (d_var (i := 0) (pe_var rfl (.inl rfl))) (d_acons d_int d_anil))) d_anil)))))) (d_call f__law_next (ok.room.mono (by decide)) ok.guards ok.takes b__law_next_2 (fun _ _ => rfl) rfl (by rfl) g__law_next k__law_next (d_acons (d_var (i := 0) (pe_var rfl (.inl rfl))) (d_acons d_int d_anil))) (fun _ _ => rfl)) d_anil))) d_anil)) (d_acons d_int d_anil)))
  (d_seq (d_for ok.own ok.calm (d_irng1 (by rfl) z_range (d_acons (d_ix (r1 ok.room) (d_lst (d_acons d_int (d_acons d_int (d_acons d_int (d_acons d_int d_anil))))) (d_call f__law_next (ok.room.mono (by decide)) ok.guards ok.takes b__law_next_2 (fun _ _ => rfl) rfl (by rfl) g__law_next k__law_next (d_acons (d_var (i := 0) (pe_var rfl (.inl rfl))) (d_acons d_int d_anil))) (fun _ _ => rfl)) d_anil)) (d_gname (i := 3) (pg_name sc__law_prices.nd rfl (.inl rfl))) (d_seq (d_set (i := 2) (ps_set sc__law_prices.nd rfl (.inl rfl) (d_bin o_add (d_bin o_add (d_var (i := 2) (pe_var rfl (.inl rfl))) d_int) (d_call f__law_next (ok.room.mono (by decide)) ok.guards ok.takes b__law_next_2 (fun _ _ => rfl) rfl (by rfl) g__law_next k__law_next (d_acons (d_var (i := 0) (pe_var rfl (.inl rfl))) (d_acons d_int d_anil))))))
  (d_one (d_expr (ps_expr (d_mt PySem.F.plainAttrs_list PySem.F.slot_list_append PySem.F.type_list_append m_append (d_var (i := 1) (pe_var rfl (.inl rfl))) (d_acons (d_tup (d_acons (d_var (i := 2) (pe_var rfl (.inl rfl))) (d_acons (d_call f__law_next (ok.room.mono (by decide)) ok.guards ok.takes b__law_next_2 (fun _ _ => rfl) rfl (by rfl) g__law_next k__law_next (d_acons (d_var (i := 0) (pe_var rfl (.inl rfl))) (d_acons d_int d_anil))) d_anil))) d_anil)))))))
  (d_one (d_ret (d_ct c_tuple (by rfl) z_tuple boot_tuple (d_acons (d_var (i := 1) (pe_var rfl (.inl rfl))) d_anil))))))
theorem sc__law_house : FnScope ["_law_feed_here", "_law_items", "_law_menu", "_law_offs", "_law_k", "_law_some", "_law_start", "_law_item"] ["_law_feed_here"] (defScope (top 10)) := ⟨rfl, rfl, rfl, by decide +kernel, rfl, by decide +kernel, by decide +kernel⟩
theorem b__law_house_1 {fd : FuncData} (F : FunD K "_law_house" "_law_house" (defArgs (top 10)) (defBody (top 10)) (defScope (top 10)) [] [] (He.ga K "_law_house") fd) : BK K fd ["_law_feed_here"] 1 [] [.p 0] [] := bk_no F fun kV doc pm an cdv ct us ws zs h1 h2 e => match us, ws, h1, h2, e with
  | [_], [], _, _, e => by
    cases e
    exact rfl
theorem ok__law_house (c : hs.Says w K) (kin : K.In base) (G : base.Ns mainGlobals mg) : ∃ fd, FunD K "_law_house" "_law_house" (defArgs (top 10)) (defBody (top 10)) (defScope (top 10)) [] [] (He.ga K "_law_house") fd ∧ Okd P w K mg base 3 "_law_house" ["_law_feed_here"] F__law_house fd := by
  obtain ⟨fd, FD⟩ := c.d.def_ 4 (d := d__law_house) rfl
  obtain ⟨fd__law_words, D__law_words, O__law_words⟩ := ok__law_words (P := P) c kin G
  have f__law_words := O__law_words.fg
  have g__law_words := O__law_words.gl
  have k__law_words := O__law_words.kp
  have b__law_words_3 := b__law_words_3 D__law_words
  obtain ⟨fd__law_next, D__law_next, O__law_next⟩ := ok__law_next (P := P) c kin G
  have f__law_next := O__law_next.fg
  have g__law_next := O__law_next.gl
  have k__law_next := O__law_next.kp
  have b__law_next_2 := b__law_next_2 D__law_next
  obtain ⟨fd__law_prices, D__law_prices, O__law_prices⟩ := ok__law_prices (P := P) c kin G
  have f__law_prices := O__law_prices.fg
  have g__law_prices := O__law_prices.gl
  have k__law_prices := O__law_prices.kp
  have b__law_prices_1 := b__law_prices_1 D__law_prices
  have z_range : mg "range" = none := He.free_ok kin G (c.d.fact 19 (f := .free "range") rfl)
  have z_sorted : mg "sorted" = none := He.free_ok kin G (c.d.fact 21 (f := .free "sorted") rfl)
  have z_tuple : mg "tuple" = none := He.free_ok kin G (c.d.fact 20 (f := .free "tuple") rfl)
  refine ⟨fd, FD, ?_, He.glo_ok kin G (c.d.fact 4 (f := .glo "_law_house") rfl), FD.kp⟩
  exact fn_ofG FD sc__law_house fun cdv A outer s H E ok =>
  (d_seq (d_set (i := 1) (ps_set sc__law_house.nd rfl (.inl rfl) (d_cb (c_sorted ok.calm) (by rfl) z_sorted boot_sorted (d_acons (d_call f__law_words (ok.room.mono (by decide)) ok.guards ok.takes b__law_words_3 (fun _ _ => rfl) rfl (by rfl) g__law_words k__law_words (d_acons (d_var (i := 0) (pe_var rfl (.inr (.inl rfl)))) (d_acons (d_bin o_add d_int (d_call f__law_next (ok.room.mono (by decide)) ok.guards ok.takes b__law_next_2 (fun _ _ => rfl) rfl (by rfl) g__law_next k__law_next (d_acons (d_var (i := 0) (pe_var rfl (.inr (.inl rfl)))) (d_acons d_int d_anil)))) (d_acons (d_lst (d_acons d_str (d_acons d_str (d_acons d_str (d_acons d_str (d_acons d_str (d_acons d_str (d_acons d_str d_anil)))))))) d_anil)))) d_anil))))
  (d_seq (d_set (i := 2) (ps_set sc__law_house.nd rfl (.inl rfl) (d_ct c_tuple (by rfl) z_tuple boot_tuple (d_acons (d_lc ok.calm sc__law_house.nd (d_iseq (d_var (i := 1) (pe_var rfl (.inl rfl)))) (blkOk_by (own := [("_law_item", 7)]) (show blkC ["_law_feed_here", "_law_items", "_law_menu", "_law_offs", "_law_k", "_law_some", "_law_start", "_law_item"] (defScope (top 10)) _ _ = true from by decide +kernel)) (by decide) (fun _ _ _ _ _ => (d_gname (i := 7) (pg_name sc__law_house.nd rfl (.inl rfl)))) (fun _ _ _ _ _ => dt_yes) (fun _ _ _ _ _ => (d_tup (d_acons (d_var (i := 7) (pe_var rfl (.inl rfl))) (d_acons (d_call f__law_next (ok.room.mono (by decide)) ok.guards LamX.takes0 b__law_next_2 (fun _ _ => rfl) rfl (by rfl) g__law_next k__law_next (d_acons (d_var (i := 0) (pe_var rfl (.inr (.inl rfl)))) (d_acons d_int d_anil))) (d_acons (d_call f__law_prices (ok.room.mono (by decide)) ok.guards LamX.takes0 b__law_prices_1 (fun _ _ => rfl) rfl (by rfl) g__law_prices k__law_prices (d_acons (d_var (i := 0) (pe_var rfl (.inr (.inl rfl)))) d_anil)) d_anil)))))) d_anil))))
  (d_seq (d_set (i := 3) (ps_set sc__law_house.nd rfl (.inl rfl) (d_lst d_anil)))
  (d_seq (d_for ok.own ok.calm (d_irng1 (by rfl) z_range (d_acons (d_call f__law_next (ok.room.mono (by decide)) ok.guards ok.takes b__law_next_2 (fun _ _ => rfl) rfl (by rfl) g__law_next k__law_next (d_acons (d_var (i := 0) (pe_var rfl (.inr (.inl rfl)))) (d_acons d_int d_anil))) d_anil)) (d_gname (i := 4) (pg_name sc__law_house.nd rfl (.inl rfl))) (d_seq (d_set (i := 5) (ps_set sc__law_house.nd rfl (.inl rfl) (d_ct c_tuple (by rfl) z_tuple boot_tuple (d_acons (d_lc ok.calm sc__law_house.nd (d_iseq (d_var (i := 1) (pe_var rfl (.inl rfl)))) (blkOk_by (own := [("_law_item", 7)]) (show blkC ["_law_feed_here", "_law_items", "_law_menu", "_law_offs", "_law_k", "_law_some", "_law_start", "_law_item"] (defScope (top 10)) _ _ = true from by decide +kernel)) (by decide) (fun _ _ _ _ _ => (d_gname (i := 7) (pg_name sc__law_house.nd rfl (.inl rfl)))) (fun _ _ _ _ _ => (pts_one (dt_cmp (o_eq (r64 ok.room)) (d_call f__law_next (ok.room.mono (by decide)) ok.guards LamX.takes0 b__law_next_2 (fun _ _ => rfl) rfl (by rfl) g__law_next k__law_next (d_acons (d_var (i := 0) (pe_var rfl (.inr (.inl rfl)))) (d_acons d_int d_anil))) d_int (by rfl)))) (fun _ _ _ _ _ => (d_var (i := 7) (pe_var rfl (.inl rfl))))) d_anil))))
  (d_seq (d_set (i := 6) (ps_set sc__law_house.nd rfl (.inl rfl) (d_ix (r1 ok.room) (d_lst (d_acons d_int (d_acons (d_call f__law_next (ok.room.mono (by decide)) ok.guards ok.takes b__law_next_2 (fun _ _ => rfl) rfl (by rfl) g__law_next k__law_next (d_acons (d_var (i := 0) (pe_var rfl (.inr (.inl rfl)))) (d_acons d_int d_anil))) d_anil))) (d_call f__law_next (ok.room.mono (by decide)) ok.guards ok.takes b__law_next_2 (fun _ _ => rfl) rfl (by rfl) g__law_next k__law_next (d_acons (d_var (i := 0) (pe_var rfl (.inr (.inl rfl)))) (d_acons d_int d_anil))) (fun _ _ => rfl))))
  (d_one (d_expr (ps_expr (d_mt PySem.F.plainAttrs_list PySem.F.slot_list_append PySem.F.type_list_append m_append (d_var (i := 3) (pe_var rfl (.inl rfl))) (d_acons (d_tup (d_acons (d_var (i := 5) (pe_var rfl (.inl rfl))) (d_acons (d_var (i := 6) (pe_var rfl (.inl rfl))) (d_acons (d_bin o_add (d_var (i := 6) (pe_var rfl (.inl rfl))) (d_call f__law_next (ok.room.mono (by decide)) ok.guards ok.takes b__law_next_2 (fun _ _ => rfl) rfl (by rfl) g__law_next k__law_next (d_acons (d_var (i := 0) (pe_var rfl (.inr (.inl rfl)))) (d_acons d_int d_anil)))) (d_acons (d_ix (r1 ok.room) (d_lst (d_acons d_int (d_acons d_int (d_acons d_int (d_acons (d_call f__law_next (ok.room.mono (by decide)) ok.guards ok.takes b__law_next_2 (fun _ _ => rfl) rfl (by rfl) g__law_next k__law_next (d_acons (d_var (i := 0) (pe_var rfl (.inr (.inl rfl)))) (d_acons d_int d_anil))) d_anil))))) (d_call f__law_next (ok.room.mono (by decide)) ok.guards ok.takes b__law_next_2 (fun _ _ => rfl) rfl (by rfl) g__law_next k__law_next (d_acons (d_var (i := 0) (pe_var rfl (.inr (.inl rfl)))) (d_acons d_int d_anil))) (fun _ _ => rfl)) d_anil))))) d_anil))))))))
  (d_one (d_ret (d_tup (d_acons (d_var (i := 2) (pe_var rfl (.inl rfl))) (d_acons (d_ct c_tuple (by rfl) z_tuple boot_tuple (d_acons (d_var (i := 3) (pe_var rfl (.inl rfl))) d_anil)) (d_acons (d_call f__law_next (ok.room.mono (by decide)) ok.guards ok.takes b__law_next_2 (fun _ _ => rfl) rfl (by rfl) g__law_next k__law_next (d_acons (d_var (i := 0) (pe_var rfl (.inr (.inl rfl)))) (d_acons d_int d_anil))) (d_acons (d_bin o_add d_int (d_call f__law_next (ok.room.mono (by decide)) ok.guards ok.takes b__law_next_2 (fun _ _ => rfl) rfl (by rfl) g__law_next k__law_next (d_acons (d_var (i := 0) (pe_var rfl (.inr (.inl rfl)))) (d_acons d_int d_anil)))) d_anil)))))))))))
theorem sc__law_guests : FnScope ["_law_feed_here", "_law_seats"] ["_law_feed_here"] (defScope (top 11)) := ⟨rfl, rfl, rfl, by decide +kernel, rfl, by decide +kernel, by decide +kernel⟩
theorem b__law_guests_1 {fd : FuncData} (F : FunD K "_law_guests" "_law_guests" (defArgs (top 11)) (defBody (top 11)) (defScope (top 11)) [] [] (He.ga K "_law_guests") fd) : BK K fd ["_law_feed_here"] 1 [] [.p 0] [] := bk_no F fun kV doc pm an cdv ct us ws zs h1 h2 e => match us, ws, h1, h2, e with
  | [_], [], _, _, e => by
    cases e
    exact rfl
theorem ok__law_guests (c : hs.Says w K) (kin : K.In base) (G : base.Ns mainGlobals mg) : ∃ fd, FunD K "_law_guests" "_law_guests" (defArgs (top 11)) (defBody (top 11)) (defScope (top 11)) [] [] (He.ga K "_law_guests") fd ∧ Okd P w K mg base 3 "_law_guests" ["_law_feed_here"] F__law_guests fd := by
  obtain ⟨fd, FD⟩ := c.d.def_ 5 (d := d__law_guests) rfl
  obtain ⟨fd__law_words, D__law_words, O__law_words⟩ := ok__law_words (P := P) c kin G
  have f__law_words := O__law_words.fg
  have g__law_words := O__law_words.gl
  have k__law_words := O__law_words.kp
  have b__law_words_3 := b__law_words_3 D__law_words
  obtain ⟨fd__law_next, D__law_next, O__law_next⟩ := ok__law_next (P := P) c kin G
  have f__law_next := O__law_next.fg
  have g__law_next := O__law_next.gl
  have k__law_next := O__law_next.kp
  have b__law_next_2 := b__law_next_2 D__law_next
  have z_sorted : mg "sorted" = none := He.free_ok kin G (c.d.fact 21 (f := .free "sorted") rfl)
  refine ⟨fd, FD, ?_, He.glo_ok kin G (c.d.fact 5 (f := .glo "_law_guests") rfl), FD.kp⟩
  exact fn_ofG FD sc__law_guests fun cdv A outer s H E ok =>
  (d_seq (d_set (i := 1) (ps_set sc__law_guests.nd rfl (.inl rfl) (d_cb (c_sorted ok.calm) (by rfl) z_sorted boot_sorted (d_acons (d_call f__law_words (ok.room.mono (by decide)) ok.guards ok.takes b__law_words_3 (fun _ _ => rfl) rfl (by rfl) g__law_words k__law_words (d_acons (d_var (i := 0) (pe_var rfl (.inl rfl))) (d_acons (d_bin o_add d_int (d_call f__law_next (ok.room.mono (by decide)) ok.guards ok.takes b__law_next_2 (fun _ _ => rfl) rfl (by rfl) g__law_next k__law_next (d_acons (d_var (i := 0) (pe_var rfl (.inl rfl))) (d_acons d_int d_anil)))) (d_acons (d_lst (d_acons d_str (d_acons d_str (d_acons d_str (d_acons d_str (d_acons d_str (d_acons d_str (d_acons d_str d_anil)))))))) d_anil)))) d_anil))))
  (d_one (d_ret (d_tup (d_acons (d_var (i := 1) (pe_var rfl (.inl rfl))) (d_acons (d_call f__law_words (ok.room.mono (by decide)) ok.guards ok.takes b__law_words_3 (fun _ _ => rfl) rfl (by rfl) g__law_words k__law_words (d_acons (d_var (i := 0) (pe_var rfl (.inl rfl))) (d_acons (d_bin o_add d_int (d_call f__law_next (ok.room.mono (by decide)) ok.guards ok.takes b__law_next_2 (fun _ _ => rfl) rfl (by rfl) g__law_next k__law_next (d_acons (d_var (i := 0) (pe_var rfl (.inl rfl))) (d_acons d_int d_anil)))) (d_acons (d_lst (d_acons d_str (d_acons d_str (d_acons d_str (d_acons d_str d_anil))))) d_anil)))) d_anil))))))
theorem sc__law_dish_deed : FnScope ["_law_feed_here", "_law_items", "_law_asked", "_law_dish", "_law_word"] ["_law_feed_here", "_law_items", "_law_asked"] (defScope (top 12)) := ⟨rfl, rfl, rfl, by decide +kernel, rfl, by decide +kernel, by decide +kernel⟩
theorem b__law_dish_deed_3 {fd : FuncData} (F : FunD K "_law_dish_deed" "_law_dish_deed" (defArgs (top 12)) (defBody (top 12)) (defScope (top 12)) [] [] (He.ga K "_law_dish_deed") fd) : BK K fd ["_law_feed_here", "_law_items", "_law_asked"] 3 [] [.p 0, .p 1, .p 2] [] := bk_no F fun kV doc pm an cdv ct us ws zs h1 h2 e => match us, ws, h1, h2, e with
  | [_, _, _], [], _, _, e => by
    cases e
    exact rfl
theorem ok__law_dish_deed (c : hs.Says w K) (kin : K.In base) (G : base.Ns mainGlobals mg) : ∃ fd, FunD K "_law_dish_deed" "_law_dish_deed" (defArgs (top 12)) (defBody (top 12)) (defScope (top 12)) [] [] (He.ga K "_law_dish_deed") fd ∧ Okd P w K mg base 2 "_law_dish_deed" ["_law_feed_here", "_law_items", "_law_asked"] F__law_dish_deed fd := by
  obtain ⟨fd, FD⟩ := c.d.def_ 6 (d := d__law_dish_deed) rfl
  obtain ⟨fd__law_next, D__law_next, O__law_next⟩ := ok__law_next (P := P) c kin G
  have f__law_next := O__law_next.fg
  have g__law_next := O__law_next.gl
  have k__law_next := O__law_next.kp
  have b__law_next_2 := b__law_next_2 D__law_next
  have z_len : mg "len" = none := He.free_ok kin G (c.d.fact 18 (f := .free "len") rfl)
  refine ⟨fd, FD, ?_, He.glo_ok kin G (c.d.fact 6 (f := .glo "_law_dish_deed") rfl), FD.kp⟩
  exact fn_ofG FD sc__law_dish_deed fun cdv A outer s H E ok =>
  (d_seq (d_set (i := 3) (ps_set sc__law_dish_deed.nd rfl (.inl rfl) (d_call f__law_next (ok.room.mono (by decide)) ok.guards ok.takes b__law_next_2 (fun _ _ => rfl) rfl (by rfl) g__law_next k__law_next (d_acons (d_var (i := 0) (pe_var rfl (.inl rfl))) (d_acons (d_bin o_add (d_var (i := 2) (pe_var rfl (.inl rfl))) d_int) d_anil)))))
  (d_seq (d_set (i := 4) (ps_set sc__law_dish_deed.nd rfl (.inl rfl) (d_ix (r1 ok.room) (d_lst (d_acons d_str (d_acons d_str (d_acons d_str (d_acons d_str (d_acons d_str d_anil)))))) (d_call f__law_next (ok.room.mono (by decide)) ok.guards ok.takes b__law_next_2 (fun _ _ => rfl) rfl (by rfl) g__law_next k__law_next (d_acons (d_var (i := 0) (pe_var rfl (.inl rfl))) (d_acons d_int d_anil))) (fun _ _ => rfl))))
  (d_one (d_ret (d_ifx (dt_cmp (o_eq (r64 ok.room)) (d_var (i := 4) (pe_var rfl (.inl rfl))) d_str (by rfl)) (d_tup (d_acons (d_var (i := 4) (pe_var rfl (.inl rfl))) (d_acons (d_var (i := 3) (pe_var rfl (.inl rfl))) (d_acons (d_ix (r1 ok.room) (d_var (i := 1) (pe_var rfl (.inl rfl))) (d_call f__law_next (ok.room.mono (by decide)) ok.guards ok.takes b__law_next_2 (fun _ _ => rfl) rfl (by rfl) g__law_next k__law_next (d_acons (d_var (i := 0) (pe_var rfl (.inl rfl))) (d_acons (d_cb c_len (by rfl) z_len boot_len (d_acons (d_var (i := 1) (pe_var rfl (.inl rfl))) d_anil)) d_anil))) (fun _ _ => rfl)) d_anil)))) (d_tup (d_acons (d_var (i := 4) (pe_var rfl (.inl rfl))) (d_acons (d_var (i := 3) (pe_var rfl (.inl rfl))) d_anil))))))))
theorem sc__law_deed : FnScope ["_law_feed_here", "_law_items", "_law_guests_here", "_law_asked", "_law_seats", "_law_tables", "_law_at", "_law_to", "_law_seat", "_law_other", "_law_table", "_law_way", "_law_some", "_law_pence", "_law_dish", "_law_deeds", "_law_one"] ["_law_feed_here", "_law_items", "_law_guests_here", "_law_asked"] (defScope (top 13)) := ⟨rfl, rfl, rfl, by decide +kernel, rfl, by decide +kernel, by decide +kernel⟩
theorem b__law_deed_4 {fd : FuncData} (F : FunD K "_law_deed" "_law_deed" (defArgs (top 13)) (defBody (top 13)) (defScope (top 13)) [] [] (He.ga K "_law_deed") fd) : BK K fd ["_law_feed_here", "_law_items", "_law_guests_here", "_law_asked"] 4 [] [.p 0, .p 1, .p 2, .p 3] [] := bk_no F fun kV doc pm an cdv ct us ws zs h1 h2 e => match us, ws, h1, h2, e with
  | [_, _, _, _], [], _, _, e => by
    cases e
    exact rfl
theorem ok__law_deed (c : hs.Says w K) (kin : K.In base) (G : base.Ns mainGlobals mg) : ∃ fd, FunD K "_law_deed" "_law_deed" (defArgs (top 13)) (defBody (top 13)) (defScope (top 13)) [] [] (He.ga K "_law_deed") fd ∧ Okd P w K mg base 3 "_law_deed" ["_law_feed_here", "_law_items", "_law_guests_here", "_law_asked"] F__law_deed fd := by
  obtain ⟨fd, FD⟩ := c.d.def_ 7 (d := d__law_deed) rfl
  obtain ⟨fd__law_next, D__law_next, O__law_next⟩ := ok__law_next (P := P) c kin G
  have f__law_next := O__law_next.fg
  have g__law_next := O__law_next.gl
  have k__law_next := O__law_next.kp
  have b__law_next_2 := b__law_next_2 D__law_next
  obtain ⟨fd__law_dish_deed, D__law_dish_deed, O__law_dish_deed⟩ := ok__law_dish_deed (P := P) c kin G
  have f__law_dish_deed := O__law_dish_deed.fg
  have g__law_dish_deed := O__law_dish_deed.gl
  have k__law_dish_deed := O__law_dish_deed.kp
  have b__law_dish_deed_3 := b__law_dish_deed_3 D__law_dish_deed
  have z_int : mg "int" = none := He.free_ok kin G (c.d.fact 22 (f := .free "int") rfl)
  have z_len : mg "len" = none := He.free_ok kin G (c.d.fact 18 (f := .free "len") rfl)
  have z_tuple : mg "tuple" = none := He.free_ok kin G (c.d.fact 20 (f := .free "tuple") rfl)
  refine ⟨fd, FD, ?_, He.glo_ok kin G (c.d.fact 7 (f := .glo "_law_deed") rfl), FD.kp⟩
  exact fn_ofG FD sc__law_deed fun cdv A outer s H E ok =>
  (d_seq (d_asg (d_var (i := 2) (pe_var rfl (.inl rfl))) (d_gtup ok.calm (d_gscons (d_gname (i := 4) (pg_name sc__law_deed.nd rfl (.inl rfl))) (d_gscons (d_gname (i := 5) (pg_name sc__law_deed.nd rfl (.inl rfl))) d_gsnil))))
  (d_seq (d_par (i := 6) (j := 7) ok.calm sc__law_deed.nd rfl rfl (by decide) rfl rfl (d_acons (d_call f__law_next (ok.room.mono (by decide)) ok.guards ok.takes b__law_next_2 (fun _ _ => rfl) rfl (by rfl) g__law_next k__law_next (d_acons (d_var (i := 0) (pe_var rfl (.inr (.inl rfl)))) (d_acons (d_cb c_len (by rfl) z_len boot_len (d_acons (d_var (i := 4) (pe_var rfl (.inl rfl))) d_anil)) d_anil))) (d_acons (d_call f__law_next (ok.room.mono (by decide)) ok.guards ok.takes b__law_next_2 (fun _ _ => rfl) rfl (by rfl) g__law_next k__law_next (d_acons (d_var (i := 0) (pe_var rfl (.inr (.inl rfl)))) (d_acons (d_cb c_len (by rfl) z_len boot_len (d_acons (d_var (i := 5) (pe_var rfl (.inl rfl))) d_anil)) d_anil))) d_anil)))
  (d_seq (d_asg (d_tup (d_acons (d_ix (r1 ok.room) (d_var (i := 4) (pe_var rfl (.inl rfl))) (d_var (i := 6) (pe_var rfl (.inl rfl))) (fun _ _ => rfl)) (d_acons (d_ix (r1 ok.room) (d_var (i := 4) (pe_var rfl (.inl rfl))) (d_bin o_sub (d_var (i := 6) (pe_var rfl (.inl rfl))) d_int) (fun _ _ => rfl)) (d_acons (d_ix (r1 ok.room) (d_var (i := 5) (pe_var rfl (.inl rfl))) (d_var (i := 7) (pe_var rfl (.inl rfl))) (fun _ _ => rfl)) d_anil)))) (d_gtup ok.calm (d_gscons (d_gname (i := 8) (pg_name sc__law_deed.nd rfl (.inr rfl))) (d_gscons (d_gname (i := 9) (pg_name sc__law_deed.nd rfl (.inl rfl))) (d_gscons (d_gname (i := 10) (pg_name sc__law_deed.nd rfl (.inl rfl))) d_gsnil)))))
  (d_seq (d_set (i := 11) (ps_set sc__law_deed.nd rfl (.inl rfl) (d_call f__law_next (ok.room.mono (by decide)) ok.guards ok.takes b__law_next_2 (fun _ _ => rfl) rfl (by rfl) g__law_next k__law_next (d_acons (d_var (i := 0) (pe_var rfl (.inr (.inl rfl)))) (d_acons d_int d_anil)))))
  (d_seq (d_set (i := 12) (ps_set sc__law_deed.nd rfl (.inl rfl) (d_ct c_tuple (by rfl) z_tuple boot_tuple (d_acons (d_lc ok.calm sc__law_deed.nd (d_iseq (d_var (i := 4) (pe_var rfl (.inl rfl)))) (blkOk_by (own := [("_law_one", 16)]) (show blkC ["_law_feed_here", "_law_items", "_law_guests_here", "_law_asked", "_law_seats", "_law_tables", "_law_at", "_law_to", "_law_seat", "_law_other", "_law_table", "_law_way", "_law_some", "_law_pence", "_law_dish", "_law_deeds", "_law_one"] (defScope (top 13)) _ _ = true from by decide +kernel)) (by decide) (fun _ _ _ _ _ => (d_gname (i := 16) (pg_name sc__law_deed.nd rfl (.inl rfl)))) (fun _ _ _ _ _ => (pts_one (dt_w (dw_or (dt_cmp (o_eq (r64 ok.room)) (d_var (i := 16) (pe_var rfl (.inl rfl))) (d_var (i := 8) (pe_var rfl (.inr (.inl rfl)))) (by rfl)) (dw_or1 (dt_cmp (o_eq (r64 ok.room)) (d_call f__law_next (ok.room.mono (by decide)) ok.guards LamX.takes0 b__law_next_2 (fun _ _ => rfl) rfl (by rfl) g__law_next k__law_next (d_acons (d_var (i := 0) (pe_var rfl (.inr (.inl rfl)))) (d_acons d_int d_anil))) d_int (by rfl))))))) (fun _ _ _ _ _ => (d_var (i := 16) (pe_var rfl (.inl rfl))))) d_anil))))
  (d_seq (d_set (i := 13) (ps_set sc__law_deed.nd rfl (.inl rfl) (d_bin o_add d_int (d_ix (r1 ok.room) (d_lst (d_acons d_int (d_acons (d_call f__law_next (ok.room.mono (by decide)) ok.guards ok.takes b__law_next_2 (fun _ _ => rfl) rfl (by rfl) g__law_next k__law_next (d_acons (d_var (i := 0) (pe_var rfl (.inr (.inl rfl)))) (d_acons d_int d_anil))) (d_acons (d_call f__law_next (ok.room.mono (by decide)) ok.guards ok.takes b__law_next_2 (fun _ _ => rfl) rfl (by rfl) g__law_next k__law_next (d_acons (d_var (i := 0) (pe_var rfl (.inr (.inl rfl)))) (d_acons d_int d_anil))) d_anil)))) (d_call f__law_next (ok.room.mono (by decide)) ok.guards ok.takes b__law_next_2 (fun _ _ => rfl) rfl (by rfl) g__law_next k__law_next (d_acons (d_var (i := 0) (pe_var rfl (.inr (.inl rfl)))) (d_acons d_int d_anil))) (fun _ _ => rfl)))))
  (d_seq (d_if (dt_w (dw_and (dt_cmp (o_lt ok.room.units0) (d_var (i := 11) (pe_var rfl (.inl rfl))) d_int (by rfl)) (dw_and1 (dt_cmp (o_lt ok.room.units0) (d_var (i := 3) (pe_var rfl (.inl rfl))) d_int (by rfl))))) (d_seq (d_set (i := 14) (ps_set sc__law_deed.nd rfl (.inl rfl) (d_bin o_sub (d_var (i := 3) (pe_var rfl (.inl rfl))) (d_ct c_int (by rfl) z_int boot_int (d_acons (d_and (d_cmp o_gt (d_var (i := 3) (pe_var rfl (.inl rfl))) d_int (by rfl)) (d_one1 (d_cmp (o_eq (r64 ok.room)) (d_call f__law_next (ok.room.mono (by decide)) ok.guards ok.takes b__law_next_2 (fun _ _ => rfl) rfl (by rfl) g__law_next k__law_next (d_acons (d_var (i := 0) (pe_var rfl (.inr (.inl rfl)))) (d_acons d_int d_anil))) d_int (by rfl)))) d_anil)))))
  (d_one (d_ret (d_tup (d_acons d_str (d_acons (d_var (i := 14) (pe_var rfl (.inl rfl))) (d_acons (d_ix (r1 ok.room) (d_var (i := 1) (pe_var rfl (.inl rfl))) (d_call f__law_next (ok.room.mono (by decide)) ok.guards ok.takes b__law_next_2 (fun _ _ => rfl) rfl (by rfl) g__law_next k__law_next (d_acons (d_var (i := 0) (pe_var rfl (.inr (.inl rfl)))) (d_acons (d_cb c_len (by rfl) z_len boot_len (d_acons (d_var (i := 1) (pe_var rfl (.inl rfl))) d_anil)) d_anil))) (fun _ _ => rfl)) (d_acons (d_bin o_mod (d_var (i := 11) (pe_var rfl (.inl rfl))) d_int) (d_acons (d_var (i := 12) (pe_var rfl (.inl rfl))) d_anil))))))))) d_nil)
  (d_seq (d_if (dt_cmp (o_lt ok.room.units0) (d_var (i := 11) (pe_var rfl (.inl rfl))) d_int (by rfl)) (d_one (d_ret (d_call f__law_dish_deed (ok.room.mono (by decide)) ok.guards ok.takes b__law_dish_deed_3 (fun _ _ => rfl) rfl (by rfl) g__law_dish_deed k__law_dish_deed (d_acons (d_var (i := 0) (pe_var rfl (.inr (.inl rfl)))) (d_acons (d_var (i := 1) (pe_var rfl (.inl rfl))) (d_acons (d_var (i := 3) (pe_var rfl (.inl rfl))) d_anil)))))) d_nil)
  (d_seq (d_if (dt_cmp (o_lt ok.room.units0) (d_var (i := 11) (pe_var rfl (.inl rfl))) d_int (by rfl)) (d_one (d_ret (d_tup (d_acons (d_ix (r1 ok.room) (d_lst (d_acons d_str (d_acons d_str (d_acons d_str d_anil)))) (d_bin o_sub (d_var (i := 11) (pe_var rfl (.inl rfl))) d_int) (fun _ _ => rfl)) (d_acons (d_var (i := 10) (pe_var rfl (.inl rfl))) (d_acons (d_call f__law_next (ok.room.mono (by decide)) ok.guards ok.takes b__law_next_2 (fun _ _ => rfl) rfl (by rfl) g__law_next k__law_next (d_acons (d_var (i := 0) (pe_var rfl (.inr (.inl rfl)))) (d_acons d_int d_anil))) d_anil)))))) d_nil)
  (d_seq (d_if (dt_cmp (o_eq (r64 ok.room)) (d_var (i := 11) (pe_var rfl (.inl rfl))) d_int (by rfl)) (d_one (d_ret (d_tup (d_acons d_str (d_acons (d_ifx (dt_cmp o_gt (d_cb c_len (by rfl) z_len boot_len (d_acons (d_var (i := 12) (pe_var rfl (.inl rfl))) d_anil)) d_int (by rfl)) (d_var (i := 12) (pe_var rfl (.inl rfl))) (d_ct c_tuple (by rfl) z_tuple boot_tuple (d_acons (d_var (i := 4) (pe_var rfl (.inl rfl))) d_anil))) d_anil))))) d_nil)
  (d_seq (d_set (i := 15) (ps_set sc__law_deed.nd rfl (.inl rfl) (d_lst (d_acons (d_tup (d_acons d_str (d_acons (d_var (i := 8) (pe_var rfl (.inr (.inl rfl)))) (d_acons (d_var (i := 10) (pe_var rfl (.inl rfl))) d_anil)))) (d_acons (d_tup (d_acons d_str (d_acons (d_var (i := 8) (pe_var rfl (.inr (.inl rfl)))) (d_acons (d_var (i := 10) (pe_var rfl (.inl rfl))) d_anil)))) (d_acons (d_tup (d_acons d_str (d_acons (d_var (i := 10) (pe_var rfl (.inl rfl))) (d_acons (d_ix (r1 ok.room) (d_var (i := 5) (pe_var rfl (.inl rfl))) (d_bin o_sub (d_var (i := 7) (pe_var rfl (.inl rfl))) d_int) (fun _ _ => rfl)) d_anil)))) (d_acons (d_tup (d_acons d_str (d_acons (d_var (i := 8) (pe_var rfl (.inr (.inl rfl)))) d_anil))) d_anil)))))))
  (d_one (d_ret (d_ix (r1 ok.room) (d_bin o_add (d_var (i := 15) (pe_var rfl (.inl rfl))) (d_lst (d_acons (d_tup (d_acons d_str (d_acons (d_var (i := 8) (pe_var rfl (.inr (.inl rfl)))) (d_acons (d_var (i := 13) (pe_var rfl (.inl rfl))) d_anil)))) (d_acons (d_tup (d_acons d_str (d_acons (d_var (i := 8) (pe_var rfl (.inr (.inl rfl)))) (d_acons (d_var (i := 9) (pe_var rfl (.inl rfl))) (d_acons (d_var (i := 13) (pe_var rfl (.inl rfl))) d_anil))))) d_anil)))) (d_bin o_sub (d_var (i := 11) (pe_var rfl (.inl rfl))) d_int) (fun _ _ => rfl)))))))))))))))
theorem sc__law_pages : FnScope ["_law_feed_here", "_law_house_here", "_law_guests_here", "_law_many", "_law_items", "_law_seats", "_law_tables", "_law_first", "_law_found", "_law_minute", "_law_asked", "_law_k", "_law_deed_here", "_law_row"] ["_law_feed_here", "_law_house_here", "_law_guests_here", "_law_many"] (defScope (top 14)) := ⟨rfl, rfl, rfl, by decide +kernel, rfl, by decide +kernel, by decide +kernel⟩
theorem b__law_pages_4 {fd : FuncData} (F : FunD K "_law_pages" "_law_pages" (defArgs (top 14)) (defBody (top 14)) (defScope (top 14)) [] [] (He.ga K "_law_pages") fd) : BK K fd ["_law_feed_here", "_law_house_here", "_law_guests_here", "_law_many"] 4 [] [.p 0, .p 1, .p 2, .p 3] [] := bk_no F fun kV doc pm an cdv ct us ws zs h1 h2 e => match us, ws, h1, h2, e with
  | [_, _, _, _], [], _, _, e => by
    cases e
    exact rfl
theorem ok__law_pages (c : hs.Says w K) (kin : K.In base) (G : base.Ns mainGlobals mg) : ∃ fd, FunD K "_law_pages" "_law_pages" (defArgs (top 14)) (defBody (top 14)) (defScope (top 14)) [] [] (He.ga K "_law_pages") fd ∧ Okd P w K mg base 4 "_law_pages" ["_law_feed_here", "_law_house_here", "_law_guests_here", "_law_many"] F__law_pages fd := by
  obtain ⟨fd, FD⟩ := c.d.def_ 8 (d := d__law_pages) rfl
  obtain ⟨fd__law_next, D__law_next, O__law_next⟩ := ok__law_next (P := P) c kin G
  have f__law_next := O__law_next.fg
  have g__law_next := O__law_next.gl
  have k__law_next := O__law_next.kp
  have b__law_next_2 := b__law_next_2 D__law_next
  obtain ⟨fd__law_deed, D__law_deed, O__law_deed⟩ := ok__law_deed (P := P) c kin G
  have f__law_deed := O__law_deed.fg
  have g__law_deed := O__law_deed.gl
  have k__law_deed := O__law_deed.kp
  have b__law_deed_4 := b__law_deed_4 D__law_deed
  have z_int : mg "int" = none := He.free_ok kin G (c.d.fact 22 (f := .free "int") rfl)
  have z_len : mg "len" = none := He.free_ok kin G (c.d.fact 18 (f := .free "len") rfl)
  have z_range : mg "range" = none := He.free_ok kin G (c.d.fact 19 (f := .free "range") rfl)
  refine ⟨fd, FD, ?_, He.glo_ok kin G (c.d.fact 8 (f := .glo "_law_pages") rfl), FD.kp⟩
  exact fn_ofG FD sc__law_pages fun cdv A outer s H E ok =>
  (d_seq (d_setLc (i := 4) ok.calm sc__law_pages.nd rfl rfl (d_iseq (d_ix (r1 ok.room) (d_var (i := 1) (pe_var rfl (.inl rfl))) d_int (fun _ _ => rfl))) (blkOk_by (own := [("_law_row", 13)]) (show blkC ["_law_feed_here", "_law_house_here", "_law_guests_here", "_law_many", "_law_items", "_law_seats", "_law_tables", "_law_first", "_law_found", "_law_minute", "_law_asked", "_law_k", "_law_deed_here", "_law_row"] (defScope (top 14)) _ _ = true from by decide +kernel)) (by decide) (fun _ _ _ _ _ => (d_gname (i := 13) (pg_name sc__law_pages.nd rfl (.inl rfl)))) (fun _ _ _ _ _ => dt_yes) (fun _ _ _ _ _ => (d_ix (r1 ok.room) (d_var (i := 13) (pe_var rfl (.inl rfl))) d_int (fun _ _ => rfl))))
  (d_seq (d_asg (d_var (i := 2) (pe_var rfl (.inl rfl))) (d_gtup ok.calm (d_gscons (d_gname (i := 5) (pg_name sc__law_pages.nd rfl (.inr rfl))) (d_gscons (d_gname (i := 6) (pg_name sc__law_pages.nd rfl (.inr rfl))) d_gsnil))))
  (d_seq (d_set (i := 7) (ps_set sc__law_pages.nd rfl (.inr rfl) (d_call f__law_next (ok.room.mono (by decide)) ok.guards ok.takes b__law_next_2 (fun _ _ => rfl) rfl (by rfl) g__law_next k__law_next (d_acons (d_var (i := 0) (pe_var rfl (.inr (.inl rfl)))) (d_acons (d_cb c_len (by rfl) z_len boot_len (d_acons (d_var (i := 6) (pe_var rfl (.inr (.inl rfl)))) d_anil)) d_anil)))))
  (d_seq (d_setLc (i := 8) ok.calm sc__law_pages.nd rfl rfl (d_irng1 (by rfl) z_range (d_acons (d_cb c_len (by rfl) z_len boot_len (d_acons (d_var (i := 5) (pe_var rfl (.inr (.inl rfl)))) d_anil)) d_anil)) (blkOk_by (own := [("_law_k", 11)]) (show blkC ["_law_feed_here", "_law_house_here", "_law_guests_here", "_law_many", "_law_items", "_law_seats", "_law_tables", "_law_first", "_law_found", "_law_minute", "_law_asked", "_law_k", "_law_deed_here", "_law_row"] (defScope (top 14)) _ _ = true from by decide +kernel)) (by decide) (fun _ _ _ _ _ => (d_gname (i := 11) (pg_name sc__law_pages.nd rfl (.inl rfl)))) (fun _ _ _ _ _ => dt_yes) (fun _ _ _ _ _ => (d_tup (d_acons (d_tup (d_acons d_int (d_acons (d_var (i := 11) (pe_var rfl (.inl rfl))) d_anil))) (d_acons (d_tup (d_acons d_str (d_acons (d_ix (r1 ok.room) (d_var (i := 5) (pe_var rfl (.inr (.inl rfl)))) (d_var (i := 11) (pe_var rfl (.inl rfl))) (fun _ _ => rfl)) (d_acons (d_ix (r1 ok.room) (d_var (i := 6) (pe_var rfl (.inr (.inl rfl)))) (d_bin o_sub (d_var (i := 7) (pe_var rfl (.inr (.inl rfl)))) (d_bin o_fdiv (d_call f__law_next (ok.room.mono (by decide)) ok.guards LamX.takes0 b__law_next_2 (fun _ _ => rfl) rfl (by rfl) g__law_next k__law_next (d_acons (d_var (i := 0) (pe_var rfl (.inr (.inl rfl)))) (d_acons d_int d_anil))) d_int)) (fun _ _ => rfl)) d_anil)))) d_anil)))))
  (d_seq (d_asg (d_tup (d_acons d_int (d_acons d_int d_anil))) (d_gtup ok.calm (d_gscons (d_gname (i := 9) (pg_name sc__law_pages.nd rfl (.inl rfl))) (d_gscons (d_gname (i := 10) (pg_name sc__law_pages.nd rfl (.inl rfl))) d_gsnil))))
  (d_seq (d_for ok.own ok.calm (d_irng1 (by rfl) z_range (d_acons (d_var (i := 3) (pe_var rfl (.inl rfl))) d_anil)) (d_gname (i := 11) (pg_name sc__law_pages.nd rfl (.inl rfl))) (d_seq (d_set (i := 9) (ps_set sc__law_pages.nd rfl (.inl rfl) (d_bin o_add (d_var (i := 9) (pe_var rfl (.inl rfl))) (d_call f__law_next (ok.room.mono (by decide)) ok.guards ok.takes b__law_next_2 (fun _ _ => rfl) rfl (by rfl) g__law_next k__law_next (d_acons (d_var (i := 0) (pe_var rfl (.inr (.inl rfl)))) (d_acons d_int d_anil))))))
  (d_seq (d_set (i := 12) (ps_set sc__law_pages.nd rfl (.inl rfl) (d_call f__law_deed (ok.room.mono (by decide)) ok.guards ok.takes b__law_deed_4 (fun _ _ => rfl) rfl (by rfl) g__law_deed k__law_deed (d_acons (d_var (i := 0) (pe_var rfl (.inr (.inl rfl)))) (d_acons (d_var (i := 4) (pe_var rfl (.inl rfl))) (d_acons (d_var (i := 2) (pe_var rfl (.inl rfl))) (d_acons (d_var (i := 10) (pe_var rfl (.inl rfl))) d_anil)))))))
  (d_seq (d_set (i := 10) (ps_set sc__law_pages.nd rfl (.inl rfl) (d_bin o_add (d_var (i := 10) (pe_var rfl (.inl rfl))) (d_ct c_int (by rfl) z_int boot_int (d_acons (d_cmp (o_eq (r64 ok.room)) (d_slice (d_var (i := 12) (pe_var rfl (.inl rfl))) d_onone (d_osome d_int)) (d_tup (d_acons d_str (d_acons (d_var (i := 10) (pe_var rfl (.inl rfl))) d_anil))) (by rfl)) d_anil)))))
  (d_one (d_expr (ps_expr (d_mt PySem.F.plainAttrs_list PySem.F.slot_list_append PySem.F.type_list_append m_append (d_var (i := 8) (pe_var rfl (.inl rfl))) (d_acons (d_tup (d_acons (d_tup (d_acons (d_var (i := 9) (pe_var rfl (.inl rfl))) (d_acons (d_cb c_len (by rfl) z_len boot_len (d_acons (d_var (i := 8) (pe_var rfl (.inl rfl))) d_anil)) d_anil))) (d_acons (d_var (i := 12) (pe_var rfl (.inl rfl))) d_anil))) d_anil)))))))))
  (d_one (d_ret (d_var (i := 8) (pe_var rfl (.inl rfl)))))))))))
theorem sc__law_pairs : FnScope ["_law_feed_here", "_law_elder_ones", "_law_many", "_law_pool", "_law_newer", "_law_some", "_law_one", "_law_other"] ["_law_feed_here", "_law_elder_ones", "_law_many"] (defScope (top 15)) := ⟨rfl, rfl, rfl, by decide +kernel, rfl, by decide +kernel, by decide +kernel⟩
theorem b__law_pairs_3 {fd : FuncData} (F : FunD K "_law_pairs" "_law_pairs" (defArgs (top 15)) (defBody (top 15)) (defScope (top 15)) [] [] (He.ga K "_law_pairs") fd) : BK K fd ["_law_feed_here", "_law_elder_ones", "_law_many"] 3 [] [.p 0, .p 1, .p 2] [] := bk_no F fun kV doc pm an cdv ct us ws zs h1 h2 e => match us, ws, h1, h2, e with
  | [_, _, _], [], _, _, e => by
    cases e
    exact rfl
theorem ok__law_pairs (c : hs.Says w K) (kin : K.In base) (G : base.Ns mainGlobals mg) : ∃ fd, FunD K "_law_pairs" "_law_pairs" (defArgs (top 15)) (defBody (top 15)) (defScope (top 15)) [] [] (He.ga K "_law_pairs") fd ∧ Okd P w K mg base 3 "_law_pairs" ["_law_feed_here", "_law_elder_ones", "_law_many"] F__law_pairs fd := by
  obtain ⟨fd, FD⟩ := c.d.def_ 9 (d := d__law_pairs) rfl
  obtain ⟨fd__law_words, D__law_words, O__law_words⟩ := ok__law_words (P := P) c kin G
  have f__law_words := O__law_words.fg
  have g__law_words := O__law_words.gl
  have k__law_words := O__law_words.kp
  have b__law_words_3 := b__law_words_3 D__law_words
  have z_len : mg "len" = none := He.free_ok kin G (c.d.fact 18 (f := .free "len") rfl)
  have z_sorted : mg "sorted" = none := He.free_ok kin G (c.d.fact 21 (f := .free "sorted") rfl)
  have z_tuple : mg "tuple" = none := He.free_ok kin G (c.d.fact 20 (f := .free "tuple") rfl)
  have z_zip : mg "zip" = none := He.free_ok kin G (c.d.fact 23 (f := .free "zip") rfl)
  refine ⟨fd, FD, ?_, He.glo_ok kin G (c.d.fact 9 (f := .glo "_law_pairs") rfl), FD.kp⟩
  exact fn_ofG FD sc__law_pairs fun cdv A outer s H E ok =>
  (d_seq (d_set (i := 3) (ps_set sc__law_pairs.nd rfl (.inl rfl) (d_lst (d_acons d_str (d_acons d_str (d_acons d_str (d_acons d_str (d_acons d_str (d_acons d_str (d_acons d_str (d_acons d_str (d_acons d_str (d_acons d_str (d_acons d_str (d_acons d_str (d_acons d_str (d_acons d_str (d_acons d_str (d_acons d_str d_anil)))))))))))))))))))
  (d_seq (d_set (i := 4) (ps_set sc__law_pairs.nd rfl (.inl rfl) (d_cb (c_sorted ok.calm) (by rfl) z_sorted boot_sorted (d_acons (d_call f__law_words (ok.room.mono (by decide)) ok.guards ok.takes b__law_words_3 (fun _ _ => rfl) rfl (by rfl) g__law_words k__law_words (d_acons (d_var (i := 0) (pe_var rfl (.inl rfl))) (d_acons (d_cb c_len (by rfl) z_len boot_len (d_acons (d_var (i := 1) (pe_var rfl (.inl rfl))) d_anil)) (d_acons (d_var (i := 3) (pe_var rfl (.inl rfl))) d_anil)))) d_anil))))
  (d_seq (d_setLc (i := 5) ok.calm sc__law_pairs.nd rfl rfl (d_izip (by rfl) z_zip (d_acons (d_var (i := 1) (pe_var rfl (.inl rfl))) (d_acons (d_var (i := 4) (pe_var rfl (.inl rfl))) d_anil))) (blkOk_by (own := [("_law_one", 6), ("_law_other", 7)]) (show blkC ["_law_feed_here", "_law_elder_ones", "_law_many", "_law_pool", "_law_newer", "_law_some", "_law_one", "_law_other"] (defScope (top 15)) _ _ = true from by decide +kernel)) (by decide) (fun _ _ _ _ _ => (d_gtup ok.calm (d_gscons (d_gname (i := 6) (pg_name sc__law_pairs.nd rfl (.inl rfl))) (d_gscons (d_gname (i := 7) (pg_name sc__law_pairs.nd rfl (.inl rfl))) d_gsnil)))) (fun _ _ _ _ _ => dt_yes) (fun _ _ _ _ _ => (d_tup (d_acons (d_var (i := 6) (pe_var rfl (.inl rfl))) (d_acons (d_var (i := 7) (pe_var rfl (.inl rfl))) d_anil)))))
  (d_one (d_ret (d_ct c_tupleK (by rfl) z_tuple boot_tuple (d_acons (d_slice (d_var (i := 5) (pe_var rfl (.inl rfl))) d_onone (d_osome (d_var (i := 2) (pe_var rfl (.inl rfl))))) d_anil)))))))
theorem sc_thing_renamed : FnScope ["deed", "at", "newer", "one"] ["deed", "at", "newer"] (defScope (top 3)) := ⟨rfl, rfl, rfl, by decide +kernel, rfl, by decide +kernel, by decide +kernel⟩
theorem b_thing_renamed_3 {fd : FuncData} (F : FunD K "thing_renamed" "thing_renamed" (defArgs (top 3)) (defBody (top 3)) (defScope (top 3)) [] [] (He.ga K "thing_renamed") fd) : BK K fd ["deed", "at", "newer"] 3 [] [.p 0, .p 1, .p 2] [] := bk_no F fun kV doc pm an cdv ct us ws zs h1 h2 e => match us, ws, h1, h2, e with
  | [_, _, _], [], _, _, e => by
    cases e
    exact rfl
theorem ok_thing_renamed (c : hs.Says w K) (kin : K.In base) (G : base.Ns mainGlobals mg) : ∃ fd, FunD K "thing_renamed" "thing_renamed" (defArgs (top 3)) (defBody (top 3)) (defScope (top 3)) [] [] (He.ga K "thing_renamed") fd ∧ Okd P w K mg base 1 "thing_renamed" ["deed", "at", "newer"] F_thing_renamed fd := by
  obtain ⟨fd, FD⟩ := c.d.def_ 10 (d := d_thing_renamed) rfl
  have z_tuple : mg "tuple" = none := He.free_ok kin G (c.d.fact 20 (f := .free "tuple") rfl)
  have z_ROWS_AT : mg "ROWS_AT" = some (.ref (He.ga K "ROWS_AT")) := He.glo_ok kin G (c.d.fact 15 (f := .glo "ROWS_AT") rfl)
  have t_ROWS_AT : KTabOk K w (He.ga K "ROWS_AT") tab_ROWS_AT := c.tab 0 (t := ("ROWS_AT", tab_ROWS_AT)) rfl
  have z_WORDS_AT : mg "WORDS_AT" = some (.ref (He.ga K "WORDS_AT")) := He.glo_ok kin G (c.d.fact 16 (f := .glo "WORDS_AT") rfl)
  have t_WORDS_AT : KTabOk K w (He.ga K "WORDS_AT") tab_WORDS_AT := c.tab 1 (t := ("WORDS_AT", tab_WORDS_AT)) rfl
  refine ⟨fd, FD, ?_, He.glo_ok kin G (c.d.fact 10 (f := .glo "thing_renamed") rfl), FD.kp⟩
  exact fn_ofG FD sc_thing_renamed fun cdv A outer s H E ok =>
  (d_seq (d_if (dt_cmp (o_in (r65 ok.room)) (d_var (i := 1) (pe_var rfl (.inl rfl))) (d_kget t_WORDS_AT (by rfl) z_WORDS_AT (d_ix (r1 ok.room) (d_var (i := 0) (pe_var rfl (.inl rfl))) d_int (fun _ _ => rfl)) (d_tup d_anil) ⟨rfl, rfl, rfl, rfl⟩) (by rfl)) (d_one (d_ret (d_mt PySem.F.plainAttrs_dict PySem.F.slot_dict_get PySem.F.type_dict_get (m_get (r1 ok.room)) (d_var (i := 2) (pe_var rfl (.inr (.inl rfl)))) (d_acons (d_ix (r1 ok.room) (d_var (i := 0) (pe_var rfl (.inl rfl))) (d_var (i := 1) (pe_var rfl (.inl rfl))) (fun _ _ => rfl)) (d_acons (d_ix (r1 ok.room) (d_var (i := 0) (pe_var rfl (.inl rfl))) (d_var (i := 1) (pe_var rfl (.inl rfl))) (fun _ _ => rfl)) d_anil))))) d_nil)
  (d_seq (d_if (dt_cmp (o_in (r65 ok.room)) (d_var (i := 1) (pe_var rfl (.inl rfl))) (d_kget t_ROWS_AT (by rfl) z_ROWS_AT (d_ix (r1 ok.room) (d_var (i := 0) (pe_var rfl (.inl rfl))) d_int (fun _ _ => rfl)) (d_tup d_anil) ⟨rfl, rfl, rfl, rfl⟩) (by rfl)) (d_one (d_ret (d_ct c_tuple (by rfl) z_tuple boot_tuple (d_acons (d_lc ok.calm sc_thing_renamed.nd (d_iseq (d_ix (r1 ok.room) (d_var (i := 0) (pe_var rfl (.inl rfl))) (d_var (i := 1) (pe_var rfl (.inl rfl))) (fun _ _ => rfl))) (blkOk_by (own := [("one", 3)]) (show blkC ["deed", "at", "newer", "one"] (defScope (top 3)) _ _ = true from by decide +kernel)) (by decide) (fun _ _ _ _ _ => (d_gname (i := 3) (pg_name sc_thing_renamed.nd rfl (.inl rfl)))) (fun _ _ _ _ _ => dt_yes) (fun _ _ _ _ _ => (d_mt PySem.F.plainAttrs_dict PySem.F.slot_dict_get PySem.F.type_dict_get (m_get (r1 ok.room)) (d_var (i := 2) (pe_var rfl (.inr (.inl rfl)))) (d_acons (d_var (i := 3) (pe_var rfl (.inl rfl))) (d_acons (d_var (i := 3) (pe_var rfl (.inl rfl))) d_anil))))) d_anil)))) d_nil)
  (d_one (d_ret (d_ix (r1 ok.room) (d_var (i := 0) (pe_var rfl (.inl rfl))) (d_var (i := 1) (pe_var rfl (.inl rfl))) (fun _ _ => rfl))))))
theorem sc_renamed : FnScope ["book", "words", "later", "newer", "found", "minute", "number", "deed", "things", "at"] ["book", "words", "later"] (defScope (top 4)) := ⟨rfl, rfl, rfl, by decide +kernel, rfl, by decide +kernel, by decide +kernel⟩
theorem dc_renamed : RepCs K dfl_renamed [V.non, V.int (0)] := fun _ _ => ⟨_, _, rfl, rfl, _, _, rfl, rfl, rfl⟩
theorem b_renamed_3 {fd : FuncData} (F : FunD K "renamed" "renamed" (defArgs (top 4)) (defBody (top 4)) (defScope (top 4)) [V.non, V.int (0)] [] (He.ga K "renamed") fd) : BK K fd ["book", "words", "later"] 3 [] [.p 0, .p 1, .p 2] [V.non, V.int (0)] := bk_dfl F (by simp) fun T kV doc pm an cdv ct us ws its zs h1 h2 h3 e => match us, ws, its, h1, h2, h3, e with
  | [_, _, _], [], [_, _], _, _, _, e => by
    cases e
    exact ⟨_, rfl, rfl⟩
theorem b_renamed_0_later_book_words {fd : FuncData} (F : FunD K "renamed" "renamed" (defArgs (top 4)) (defBody (top 4)) (defScope (top 4)) [V.non, V.int (0)] [] (He.ga K "renamed") fd) : BK K fd ["book", "words", "later"] 0 ["later", "book", "words"] [.k 1, .k 2, .k 0] [V.non, V.int (0)] := bk_dfl F (by simp) fun T kV doc pm an cdv ct us ws its zs h1 h2 h3 e => match us, ws, its, h1, h2, h3, e with
  | [], [_, _, _], [_, _], _, _, _, e => by
    cases e
    exact ⟨_, rfl, rfl⟩
theorem b_renamed_2 {fd : FuncData} (F : FunD K "renamed" "renamed" (defArgs (top 4)) (defBody (top 4)) (defScope (top 4)) [V.non, V.int (0)] [] (He.ga K "renamed") fd) : BK K fd ["book", "words", "later"] 2 [] [.p 0, .p 1, .d 1] [V.non, V.int (0)] := bk_dfl F (by simp) fun T kV doc pm an cdv ct us ws its zs h1 h2 h3 e => match us, ws, its, h1, h2, h3, e with
  | [_, _], [], [_, _], _, _, _, e => by
    cases e
    exact ⟨_, rfl, rfl⟩
theorem b_renamed_1_later {fd : FuncData} (F : FunD K "renamed" "renamed" (defArgs (top 4)) (defBody (top 4)) (defScope (top 4)) [V.non, V.int (0)] [] (He.ga K "renamed") fd) : BK K fd ["book", "words", "later"] 1 ["later"] [.p 0, .d 0, .k 0] [V.non, V.int (0)] := bk_dfl F (by simp) fun T kV doc pm an cdv ct us ws its zs h1 h2 h3 e => match us, ws, its, h1, h2, h3, e with
  | [_], [_], [_, _], _, _, _, e => by
    cases e
    exact ⟨_, rfl, rfl⟩
theorem b_renamed_1_words {fd : FuncData} (F : FunD K "renamed" "renamed" (defArgs (top 4)) (defBody (top 4)) (defScope (top 4)) [V.non, V.int (0)] [] (He.ga K "renamed") fd) : BK K fd ["book", "words", "later"] 1 ["words"] [.p 0, .k 0, .d 1] [V.non, V.int (0)] := bk_dfl F (by simp) fun T kV doc pm an cdv ct us ws its zs h1 h2 h3 e => match us, ws, its, h1, h2, h3, e with
  | [_], [_], [_, _], _, _, _, e => by
    cases e
    exact ⟨_, rfl, rfl⟩
theorem b_renamed_1 {fd : FuncData} (F : FunD K "renamed" "renamed" (defArgs (top 4)) (defBody (top 4)) (defScope (top 4)) [V.non, V.int (0)] [] (He.ga K "renamed") fd) : BK K fd ["book", "words", "later"] 1 [] [.p 0, .d 0, .d 1] [V.non, V.int (0)] := bk_dfl F (by simp) fun T kV doc pm an cdv ct us ws its zs h1 h2 h3 e => match us, ws, its, h1, h2, h3, e with
  | [_], [], [_, _], _, _, _, e => by
    cases e
    exact ⟨_, rfl, rfl⟩
theorem ok_renamed (c : hs.Says w K) (kin : K.In base) (G : base.Ns mainGlobals mg) : ∃ fd, FunD K "renamed" "renamed" (defArgs (top 4)) (defBody (top 4)) (defScope (top 4)) [V.non, V.int (0)] [] (He.ga K "renamed") fd ∧ Okd P w K mg base 2 "renamed" ["book", "words", "later"] F_renamed fd := by
  obtain ⟨fd, FD⟩ := c.d.def_ 11 (d := d_renamed) rfl
  obtain ⟨fd_thing_renamed, D_thing_renamed, O_thing_renamed⟩ := ok_thing_renamed (P := P) c kin G
  have f_thing_renamed := O_thing_renamed.fg
  have g_thing_renamed := O_thing_renamed.gl
  have k_thing_renamed := O_thing_renamed.kp
  have b_thing_renamed_3 := b_thing_renamed_3 D_thing_renamed
  have z_dict : mg "dict" = none := He.free_ok kin G (c.d.fact 24 (f := .free "dict") rfl)
  have z_len : mg "len" = none := He.free_ok kin G (c.d.fact 18 (f := .free "len") rfl)
  have z_range : mg "range" = none := He.free_ok kin G (c.d.fact 19 (f := .free "range") rfl)
  have z_tuple : mg "tuple" = none := He.free_ok kin G (c.d.fact 20 (f := .free "tuple") rfl)
  refine ⟨fd, FD, ?_, He.glo_ok kin G (c.d.fact 11 (f := .glo "renamed") rfl), FD.kp⟩
  exact fn_ofG FD sc_renamed fun cdv A outer s H E ok =>
  (d_seq (d_set (i := 3) (ps_set sc_renamed.nd rfl (.inr rfl) (d_ifx (dt_cmp o_notN (d_var (i := 1) (pe_var rfl (.inl rfl))) d_non (by rfl)) (d_ct (c_dict ok.calm) (by rfl) z_dict boot_dict (d_acons (d_var (i := 1) (pe_var rfl (.inl rfl))) d_anil)) d_dictK)))
  (d_seq (d_set (i := 4) (ps_set sc_renamed.nd rfl (.inl rfl) (d_lst d_anil)))
  (d_seq (d_for ok.own ok.calm (d_iseq (d_var (i := 0) (pe_var rfl (.inl rfl)))) (d_gtup ok.calm (d_gscons (d_gtup ok.calm (d_gscons (d_gname (i := 5) (pg_name sc_renamed.nd rfl (.inl rfl))) (d_gscons (d_gname (i := 6) (pg_name sc_renamed.nd rfl (.inl rfl))) d_gsnil))) (d_gscons (d_gname (i := 7) (pg_name sc_renamed.nd rfl (.inr rfl))) d_gsnil))) (d_seq (d_set (i := 8) (ps_set sc_renamed.nd rfl (.inl rfl) (d_ct c_tuple (by rfl) z_tuple boot_tuple (d_acons (d_lc ok.calm sc_renamed.nd (d_irng1 (by rfl) z_range (d_acons (d_cb c_len (by rfl) z_len boot_len (d_acons (d_var (i := 7) (pe_var rfl (.inr (.inl rfl)))) d_anil)) d_anil)) (blkOk_by (own := [("at", 9)]) (show blkC ["book", "words", "later", "newer", "found", "minute", "number", "deed", "things", "at"] (defScope (top 4)) _ _ = true from by decide +kernel)) (by decide) (fun _ _ _ _ _ => (d_gname (i := 9) (pg_name sc_renamed.nd rfl (.inl rfl)))) (fun _ _ _ _ _ => dt_yes) (fun _ _ _ _ _ => (d_call f_thing_renamed (ok.room.mono (by decide)) ok.guards LamX.takes0 b_thing_renamed_3 (fun _ _ => rfl) rfl (by rfl) g_thing_renamed k_thing_renamed (d_acons (d_var (i := 7) (pe_var rfl (.inr (.inl rfl)))) (d_acons (d_var (i := 9) (pe_var rfl (.inl rfl))) (d_acons (d_var (i := 3) (pe_var rfl (.inr (.inl rfl)))) d_anil)))))) d_anil))))
  (d_one (d_expr (ps_expr (d_mt PySem.F.plainAttrs_list PySem.F.slot_list_append PySem.F.type_list_append m_append (d_var (i := 4) (pe_var rfl (.inl rfl))) (d_acons (d_tup (d_acons (d_tup (d_acons (d_bin o_add (d_var (i := 5) (pe_var rfl (.inl rfl))) (d_var (i := 2) (pe_var rfl (.inl rfl)))) (d_acons (d_var (i := 6) (pe_var rfl (.inl rfl))) d_anil))) (d_acons (d_var (i := 8) (pe_var rfl (.inl rfl))) d_anil))) d_anil)))))))
  (d_one (d_ret (d_ct c_tuple (by rfl) z_tuple boot_tuple (d_acons (d_var (i := 4) (pe_var rfl (.inl rfl))) d_anil)))))))
theorem sc__law_deed_by : FnScope ["_law_deed_here", "_law_newer", "_law_one"] ["_law_deed_here", "_law_newer"] (defScope (top 16)) := ⟨rfl, rfl, rfl, by decide +kernel, rfl, by decide +kernel, by decide +kernel⟩
theorem b__law_deed_by_2 {fd : FuncData} (F : FunD K "_law_deed_by" "_law_deed_by" (defArgs (top 16)) (defBody (top 16)) (defScope (top 16)) [] [] (He.ga K "_law_deed_by") fd) : BK K fd ["_law_deed_here", "_law_newer"] 2 [] [.p 0, .p 1] [] := bk_no F fun kV doc pm an cdv ct us ws zs h1 h2 e => match us, ws, h1, h2, e with
  | [_, _], [], _, _, e => by
    cases e
    exact rfl
theorem ok__law_deed_by (c : hs.Says w K) (kin : K.In base) (G : base.Ns mainGlobals mg) : ∃ fd, FunD K "_law_deed_by" "_law_deed_by" (defArgs (top 16)) (defBody (top 16)) (defScope (top 16)) [] [] (He.ga K "_law_deed_by") fd ∧ Okd P w K mg base 1 "_law_deed_by" ["_law_deed_here", "_law_newer"] F__law_deed_by fd := by
  obtain ⟨fd, FD⟩ := c.d.def_ 12 (d := d__law_deed_by) rfl
  have z_tuple : mg "tuple" = none := He.free_ok kin G (c.d.fact 20 (f := .free "tuple") rfl)
  refine ⟨fd, FD, ?_, He.glo_ok kin G (c.d.fact 12 (f := .glo "_law_deed_by") rfl), FD.kp⟩
  exact fn_ofG FD sc__law_deed_by fun cdv A outer s H E ok =>
  (d_seq (d_if (dt_cmp (o_in (r65 ok.room)) (d_ix (r1 ok.room) (d_var (i := 0) (pe_var rfl (.inl rfl))) d_int (fun _ _ => rfl)) (d_tup (d_acons d_str (d_acons d_str (d_acons d_str d_anil)))) (by rfl)) (d_one (d_ret (d_tup (d_acons (d_ix (r1 ok.room) (d_var (i := 0) (pe_var rfl (.inl rfl))) d_int (fun _ _ => rfl)) (d_acons (d_mt PySem.F.plainAttrs_dict PySem.F.slot_dict_get PySem.F.type_dict_get (m_get (r1 ok.room)) (d_var (i := 1) (pe_var rfl (.inr (.inl rfl)))) (d_acons (d_ix (r1 ok.room) (d_var (i := 0) (pe_var rfl (.inl rfl))) d_int (fun _ _ => rfl)) (d_acons (d_ix (r1 ok.room) (d_var (i := 0) (pe_var rfl (.inl rfl))) d_int (fun _ _ => rfl)) d_anil))) (d_acons (d_mt PySem.F.plainAttrs_dict PySem.F.slot_dict_get PySem.F.type_dict_get (m_get (r1 ok.room)) (d_var (i := 1) (pe_var rfl (.inr (.inl rfl)))) (d_acons (d_ix (r1 ok.room) (d_var (i := 0) (pe_var rfl (.inl rfl))) d_int (fun _ _ => rfl)) (d_acons (d_ix (r1 ok.room) (d_var (i := 0) (pe_var rfl (.inl rfl))) d_int (fun _ _ => rfl)) d_anil))) d_anil)))))) d_nil)
  (d_seq (d_if (dt_cmp (o_eq (r64 ok.room)) (d_ix (r1 ok.room) (d_var (i := 0) (pe_var rfl (.inl rfl))) d_int (fun _ _ => rfl)) d_str (by rfl)) (d_one (d_ret (d_tup (d_acons d_str (d_acons (d_mt PySem.F.plainAttrs_dict PySem.F.slot_dict_get PySem.F.type_dict_get (m_get (r1 ok.room)) (d_var (i := 1) (pe_var rfl (.inr (.inl rfl)))) (d_acons (d_ix (r1 ok.room) (d_var (i := 0) (pe_var rfl (.inl rfl))) d_int (fun _ _ => rfl)) (d_acons (d_ix (r1 ok.room) (d_var (i := 0) (pe_var rfl (.inl rfl))) d_int (fun _ _ => rfl)) d_anil))) (d_acons (d_mt PySem.F.plainAttrs_dict PySem.F.slot_dict_get PySem.F.type_dict_get (m_get (r1 ok.room)) (d_var (i := 1) (pe_var rfl (.inr (.inl rfl)))) (d_acons (d_ix (r1 ok.room) (d_var (i := 0) (pe_var rfl (.inl rfl))) d_int (fun _ _ => rfl)) (d_acons (d_ix (r1 ok.room) (d_var (i := 0) (pe_var rfl (.inl rfl))) d_int (fun _ _ => rfl)) d_anil))) (d_acons (d_ix (r1 ok.room) (d_var (i := 0) (pe_var rfl (.inl rfl))) d_int (fun _ _ => rfl)) d_anil))))))) d_nil)
  (d_seq (d_if (dt_cmp (o_in (r65 ok.room)) (d_ix (r1 ok.room) (d_var (i := 0) (pe_var rfl (.inl rfl))) d_int (fun _ _ => rfl)) (d_tup (d_acons d_str (d_acons d_str (d_acons d_str (d_acons d_str d_anil))))) (by rfl)) (d_one (d_ret (d_bin o_add (d_tup (d_acons (d_ix (r1 ok.room) (d_var (i := 0) (pe_var rfl (.inl rfl))) d_int (fun _ _ => rfl)) (d_acons (d_mt PySem.F.plainAttrs_dict PySem.F.slot_dict_get PySem.F.type_dict_get (m_get (r1 ok.room)) (d_var (i := 1) (pe_var rfl (.inr (.inl rfl)))) (d_acons (d_ix (r1 ok.room) (d_var (i := 0) (pe_var rfl (.inl rfl))) d_int (fun _ _ => rfl)) (d_acons (d_ix (r1 ok.room) (d_var (i := 0) (pe_var rfl (.inl rfl))) d_int (fun _ _ => rfl)) d_anil))) d_anil))) (d_slice (d_var (i := 0) (pe_var rfl (.inl rfl))) (d_osome d_int) d_onone)))) d_nil)
  (d_seq (d_if (dt_cmp (o_eq (r64 ok.room)) (d_ix (r1 ok.room) (d_var (i := 0) (pe_var rfl (.inl rfl))) d_int (fun _ _ => rfl)) d_str (by rfl)) (d_one (d_ret (d_tup (d_acons d_str (d_acons (d_ct c_tuple (by rfl) z_tuple boot_tuple (d_acons (d_lc ok.calm sc__law_deed_by.nd (d_iseq (d_ix (r1 ok.room) (d_var (i := 0) (pe_var rfl (.inl rfl))) d_int (fun _ _ => rfl))) (blkOk_by (own := [("_law_one", 2)]) (show blkC ["_law_deed_here", "_law_newer", "_law_one"] (defScope (top 16)) _ _ = true from by decide +kernel)) (by decide) (fun _ _ _ _ _ => (d_gname (i := 2) (pg_name sc__law_deed_by.nd rfl (.inl rfl)))) (fun _ _ _ _ _ => dt_yes) (fun _ _ _ _ _ => (d_mt PySem.F.plainAttrs_dict PySem.F.slot_dict_get PySem.F.type_dict_get (m_get (r1 ok.room)) (d_var (i := 1) (pe_var rfl (.inr (.inl rfl)))) (d_acons (d_var (i := 2) (pe_var rfl (.inl rfl))) (d_acons (d_var (i := 2) (pe_var rfl (.inl rfl))) d_anil))))) d_anil)) d_anil))))) d_nil)
  (d_seq (d_if (dt_cmp (o_eq (r64 ok.room)) (d_ix (r1 ok.room) (d_var (i := 0) (pe_var rfl (.inl rfl))) d_int (fun _ _ => rfl)) d_str (by rfl)) (d_one (d_ret (d_bin o_add (d_slice (d_var (i := 0) (pe_var rfl (.inl rfl))) d_onone (d_osome d_int)) (d_tup (d_acons (d_ct c_tuple (by rfl) z_tuple boot_tuple (d_acons (d_lc ok.calm sc__law_deed_by.nd (d_iseq (d_ix (r1 ok.room) (d_var (i := 0) (pe_var rfl (.inl rfl))) d_int (fun _ _ => rfl))) (blkOk_by (own := [("_law_one", 2)]) (show blkC ["_law_deed_here", "_law_newer", "_law_one"] (defScope (top 16)) _ _ = true from by decide +kernel)) (by decide) (fun _ _ _ _ _ => (d_gname (i := 2) (pg_name sc__law_deed_by.nd rfl (.inl rfl)))) (fun _ _ _ _ _ => dt_yes) (fun _ _ _ _ _ => (d_mt PySem.F.plainAttrs_dict PySem.F.slot_dict_get PySem.F.type_dict_get (m_get (r1 ok.room)) (d_var (i := 1) (pe_var rfl (.inr (.inl rfl)))) (d_acons (d_var (i := 2) (pe_var rfl (.inl rfl))) (d_acons (d_var (i := 2) (pe_var rfl (.inl rfl))) d_anil))))) d_anil)) d_anil))))) d_nil)
  (d_one (d_ret (d_var (i := 0) (pe_var rfl (.inl rfl))))))))))
theorem sc__law_book_by : FnScope ["_law_pages_now", "_law_pairs_here", "_law_more", "_law_newer", "_law_name", "_law_deed_here"] ["_law_pages_now", "_law_pairs_here", "_law_more"] (defScope (top 17)) := ⟨rfl, rfl, rfl, by decide +kernel, rfl, by decide +kernel, by decide +kernel⟩
theorem b__law_book_by_3 {fd : FuncData} (F : FunD K "_law_book_by" "_law_book_by" (defArgs (top 17)) (defBody (top 17)) (defScope (top 17)) [] [] (He.ga K "_law_book_by") fd) : BK K fd ["_law_pages_now", "_law_pairs_here", "_law_more"] 3 [] [.p 0, .p 1, .p 2] [] := bk_no F fun kV doc pm an cdv ct us ws zs h1 h2 e => match us, ws, h1, h2, e with
  | [_, _, _], [], _, _, e => by
    cases e
    exact rfl
theorem ok__law_book_by (c : hs.Says w K) (kin : K.In base) (G : base.Ns mainGlobals mg) : ∃ fd, FunD K "_law_book_by" "_law_book_by" (defArgs (top 17)) (defBody (top 17)) (defScope (top 17)) [] [] (He.ga K "_law_book_by") fd ∧ Okd P w K mg base 2 "_law_book_by" ["_law_pages_now", "_law_pairs_here", "_law_more"] F__law_book_by fd := by
  obtain ⟨fd, FD⟩ := c.d.def_ 13 (d := d__law_book_by) rfl
  obtain ⟨fd__law_deed_by, D__law_deed_by, O__law_deed_by⟩ := ok__law_deed_by (P := P) c kin G
  have f__law_deed_by := O__law_deed_by.fg
  have g__law_deed_by := O__law_deed_by.gl
  have k__law_deed_by := O__law_deed_by.kp
  have b__law_deed_by_2 := b__law_deed_by_2 D__law_deed_by
  have z_dict : mg "dict" = none := He.free_ok kin G (c.d.fact 24 (f := .free "dict") rfl)
  have z_tuple : mg "tuple" = none := He.free_ok kin G (c.d.fact 20 (f := .free "tuple") rfl)
  refine ⟨fd, FD, ?_, He.glo_ok kin G (c.d.fact 13 (f := .glo "_law_book_by") rfl), FD.kp⟩
  exact fn_ofG FD sc__law_book_by fun cdv A outer s H E ok =>
  (d_seq (d_set (i := 3) (ps_set sc__law_book_by.nd rfl (.inr rfl) (d_ct (c_dict ok.calm) (by rfl) z_dict boot_dict (d_acons (d_var (i := 1) (pe_var rfl (.inl rfl))) d_anil))))
  (d_one (d_ret (d_ct c_tuple (by rfl) z_tuple boot_tuple (d_acons (d_lc ok.calm sc__law_book_by.nd (d_iseq (d_var (i := 0) (pe_var rfl (.inl rfl)))) (blkOk_by (own := [("_law_name", 4), ("_law_deed_here", 5)]) (show blkC ["_law_pages_now", "_law_pairs_here", "_law_more", "_law_newer", "_law_name", "_law_deed_here"] (defScope (top 17)) _ _ = true from by decide +kernel)) (by decide) (fun _ _ _ _ _ => (d_gtup ok.calm (d_gscons (d_gname (i := 4) (pg_name sc__law_book_by.nd rfl (.inl rfl))) (d_gscons (d_gname (i := 5) (pg_name sc__law_book_by.nd rfl (.inl rfl))) d_gsnil)))) (fun _ _ _ _ _ => dt_yes) (fun _ _ _ _ _ => (d_tup (d_acons (d_tup (d_acons (d_bin o_add (d_ix (r1 ok.room) (d_var (i := 4) (pe_var rfl (.inl rfl))) d_int (fun _ _ => rfl)) (d_var (i := 2) (pe_var rfl (.inr (.inl rfl))))) (d_acons (d_ix (r1 ok.room) (d_var (i := 4) (pe_var rfl (.inl rfl))) d_int (fun _ _ => rfl)) d_anil))) (d_acons (d_call f__law_deed_by (ok.room.mono (by decide)) ok.guards LamX.takes0 b__law_deed_by_2 (fun _ _ => rfl) rfl (by rfl) g__law_deed_by k__law_deed_by (d_acons (d_var (i := 5) (pe_var rfl (.inl rfl))) (d_acons (d_var (i := 3) (pe_var rfl (.inr (.inl rfl)))) d_anil))) d_anil))))) d_anil)))))
theorem sc_law : FnScope ["_law_script", "_law_feed_here", "_law_house_here", "_law_guests_here", "_law_pages_now", "_law_every", "_law_turn", "_law_pairs_here", "_law_more", "_law_handed", "_law_told", "_law_want", "_law_contrary", "_law_alone", "_law_elder", "_law_newer"] ["_law_script"] (defScope (top 18)) := ⟨rfl, rfl, rfl, by decide +kernel, rfl, by decide +kernel, by decide +kernel⟩
theorem ok_law (c : hs.Says w K) (kin : K.In base) (G : base.Ns mainGlobals mg) : ∃ fd, FunD K "law" "law" (defArgs (top 18)) (defBody (top 18)) (defScope (top 18)) [] [] (He.ga K "law") fd ∧ Okd P w K mg base 5 "law" ["_law_script"] F_law fd := by
  obtain ⟨fd, FD⟩ := c.d.def_ 14 (d := d_law) rfl
  obtain ⟨fd__law_feed, D__law_feed, O__law_feed⟩ := ok__law_feed (P := P) c kin G
  have f__law_feed := O__law_feed.fg
  have g__law_feed := O__law_feed.gl
  have k__law_feed := O__law_feed.kp
  have b__law_feed_1 := b__law_feed_1 D__law_feed
  obtain ⟨fd__law_house, D__law_house, O__law_house⟩ := ok__law_house (P := P) c kin G
  have f__law_house := O__law_house.fg
  have g__law_house := O__law_house.gl
  have k__law_house := O__law_house.kp
  have b__law_house_1 := b__law_house_1 D__law_house
  obtain ⟨fd__law_guests, D__law_guests, O__law_guests⟩ := ok__law_guests (P := P) c kin G
  have f__law_guests := O__law_guests.fg
  have g__law_guests := O__law_guests.gl
  have k__law_guests := O__law_guests.kp
  have b__law_guests_1 := b__law_guests_1 D__law_guests
  obtain ⟨fd__law_pages, D__law_pages, O__law_pages⟩ := ok__law_pages (P := P) c kin G
  have f__law_pages := O__law_pages.fg
  have g__law_pages := O__law_pages.gl
  have k__law_pages := O__law_pages.kp
  have b__law_pages_4 := b__law_pages_4 D__law_pages
  obtain ⟨fd__law_next, D__law_next, O__law_next⟩ := ok__law_next (P := P) c kin G
  have f__law_next := O__law_next.fg
  have g__law_next := O__law_next.gl
  have k__law_next := O__law_next.kp
  have b__law_next_2 := b__law_next_2 D__law_next
  obtain ⟨fd__law_pairs, D__law_pairs, O__law_pairs⟩ := ok__law_pairs (P := P) c kin G
  have f__law_pairs := O__law_pairs.fg
  have g__law_pairs := O__law_pairs.gl
  have k__law_pairs := O__law_pairs.kp
  have b__law_pairs_3 := b__law_pairs_3 D__law_pairs
  obtain ⟨fd_renamed, D_renamed, O_renamed⟩ := ok_renamed (P := P) c kin G
  have f_renamed := O_renamed.fg
  have g_renamed := O_renamed.gl
  have k_renamed := O_renamed.kp
  have b_renamed_3 := b_renamed_3 D_renamed
  have b_renamed_0_later_book_words := b_renamed_0_later_book_words D_renamed
  have b_renamed_2 := b_renamed_2 D_renamed
  have b_renamed_1_later := b_renamed_1_later D_renamed
  have b_renamed_1_words := b_renamed_1_words D_renamed
  have b_renamed_1 := b_renamed_1 D_renamed
  obtain ⟨fd__law_book_by, D__law_book_by, O__law_book_by⟩ := ok__law_book_by (P := P) c kin G
  have f__law_book_by := O__law_book_by.fg
  have g__law_book_by := O__law_book_by.gl
  have k__law_book_by := O__law_book_by.kp
  have b__law_book_by_3 := b__law_book_by_3 D__law_book_by
  have z_isinstance : mg "isinstance" = none := He.free_ok kin G (c.d.fact 25 (f := .free "isinstance") rfl)
  have z_len : mg "len" = none := He.free_ok kin G (c.d.fact 18 (f := .free "len") rfl)
  have z_range : mg "range" = none := He.free_ok kin G (c.d.fact 19 (f := .free "range") rfl)
  have z_repr : mg "repr" = none := He.free_ok kin G (c.d.fact 26 (f := .free "repr") rfl)
  have z_set : mg "set" = none := He.free_ok kin G (c.d.fact 27 (f := .free "set") rfl)
  have z_sorted : mg "sorted" = none := He.free_ok kin G (c.d.fact 21 (f := .free "sorted") rfl)
  have z_tuple : mg "tuple" = none := He.free_ok kin G (c.d.fact 20 (f := .free "tuple") rfl)
  refine ⟨fd, FD, ?_, He.glo_ok kin G (c.d.fact 14 (f := .glo "law") rfl), FD.kp⟩
  exact fn_ofG FD sc_law fun cdv A outer s H E ok =>
  (d_seq (d_set (i := 1) (ps_set sc_law.nd rfl (.inl rfl) (d_call f__law_feed (ok.room.mono (by decide)) ok.guards ok.takes b__law_feed_1 (fun _ _ => rfl) rfl (by rfl) g__law_feed k__law_feed (d_acons (d_var (i := 0) (pe_var rfl (.inl rfl))) d_anil))))
  (d_seq (d_par (i := 2) (j := 3) ok.calm sc_law.nd rfl rfl (by decide) rfl rfl (d_acons (d_call f__law_house (ok.room.mono (by decide)) ok.guards ok.takes b__law_house_1 (fun _ _ => rfl) rfl (by rfl) g__law_house k__law_house (d_acons (d_var (i := 1) (pe_var rfl (.inl rfl))) d_anil)) (d_acons (d_call f__law_guests (ok.room.mono (by decide)) ok.guards ok.takes b__law_guests_1 (fun _ _ => rfl) rfl (by rfl) g__law_guests k__law_guests (d_acons (d_var (i := 1) (pe_var rfl (.inl rfl))) d_anil)) d_anil)))
  (d_seq (d_set (i := 4) (ps_set sc_law.nd rfl (.inl rfl) (d_ct c_tuple (by rfl) z_tuple boot_tuple (d_acons (d_call f__law_pages (ok.room.mono (by decide)) ok.guards ok.takes b__law_pages_4 (fun _ _ => rfl) rfl (by rfl) g__law_pages k__law_pages (d_acons (d_var (i := 1) (pe_var rfl (.inl rfl))) (d_acons (d_var (i := 2) (pe_var rfl (.inl rfl))) (d_acons (d_var (i := 3) (pe_var rfl (.inl rfl))) (d_acons (d_call f__law_next (ok.room.mono (by decide)) ok.guards ok.takes b__law_next_2 (fun _ _ => rfl) rfl (by rfl) g__law_next k__law_next (d_acons (d_var (i := 1) (pe_var rfl (.inl rfl))) (d_acons d_int d_anil))) d_anil))))) d_anil))))
  (d_seq (d_set (i := 5) (ps_set sc_law.nd rfl (.inl rfl) (d_sortset ok.calm (by rfl) z_sorted (by rfl) z_set (d_acons (d_bin o_add (d_ix (r1 ok.room) (d_var (i := 3) (pe_var rfl (.inl rfl))) d_int (fun _ _ => rfl)) (d_ix (r1 ok.room) (d_var (i := 3) (pe_var rfl (.inl rfl))) d_int (fun _ _ => rfl))) d_anil))))
  (d_seq (d_for ok.own ok.calm (d_irng1 (by rfl) z_range (d_acons d_int d_anil)) (d_gname (i := 6) (pg_name sc_law.nd rfl (.inl rfl))) (d_seq (d_par (i := 7) (j := 8) ok.calm sc_law.nd rfl rfl (by decide) rfl rfl (d_acons (d_call f__law_pairs (ok.room.mono (by decide)) ok.guards ok.takes b__law_pairs_3 (fun _ _ => rfl) rfl (by rfl) g__law_pairs k__law_pairs (d_acons (d_var (i := 1) (pe_var rfl (.inl rfl))) (d_acons (d_var (i := 5) (pe_var rfl (.inl rfl))) (d_acons (d_cb c_len (by rfl) z_len boot_len (d_acons (d_var (i := 5) (pe_var rfl (.inl rfl))) d_anil)) d_anil)))) (d_acons (d_ix (r1 ok.room) (d_lst (d_acons d_int (d_acons d_int (d_acons d_int (d_acons (d_call f__law_next (ok.room.mono (by decide)) ok.guards ok.takes b__law_next_2 (fun _ _ => rfl) rfl (by rfl) g__law_next k__law_next (d_acons (d_var (i := 1) (pe_var rfl (.inl rfl))) (d_acons d_int d_anil))) d_anil))))) (d_call f__law_next (ok.room.mono (by decide)) ok.guards ok.takes b__law_next_2 (fun _ _ => rfl) rfl (by rfl) g__law_next k__law_next (d_acons (d_var (i := 1) (pe_var rfl (.inl rfl))) (d_acons d_int d_anil))) (fun _ _ => rfl)) d_anil)))
  (d_seq (d_set (i := 9) (ps_set sc_law.nd rfl (.inl rfl) (d_cb (c_repr ok.guards (r64 ok.room)) (by rfl) z_repr boot_repr (d_acons (d_tup (d_acons (d_var (i := 4) (pe_var rfl (.inl rfl))) (d_acons (d_var (i := 7) (pe_var rfl (.inl rfl))) d_anil))) d_anil))))
  (d_seq (d_set (i := 10) (ps_set sc_law.nd rfl (.inl rfl) (d_call f_renamed (ok.room.mono (by decide)) ok.guards ok.takes b_renamed_3 dc_renamed rfl (by rfl) g_renamed k_renamed (d_acons (d_var (i := 4) (pe_var rfl (.inl rfl))) (d_acons (d_var (i := 7) (pe_var rfl (.inl rfl))) (d_acons (d_var (i := 8) (pe_var rfl (.inl rfl))) d_anil))))))
  (d_seq (d_if (dt_w (dw_or (dt_not (dt_val (d_cb c_isi (by rfl) z_isinstance boot_isinstance (d_acons (d_var (i := 10) (pe_var rfl (.inl rfl))) (d_acons (d_ty (by rfl) z_tuple boot_tuple) d_anil))))) (dw_or1 (dt_cmp (o_ne (r64 ok.room)) (d_cb (c_repr ok.guards (r64 ok.room)) (by rfl) z_repr boot_repr (d_acons (d_var (i := 10) (pe_var rfl (.inl rfl))) d_anil)) (d_cb (c_repr ok.guards (r64 ok.room)) (by rfl) z_repr boot_repr (d_acons (d_call f__law_book_by (ok.room.mono (by decide)) ok.guards ok.takes b__law_book_by_3 (fun _ _ => rfl) rfl (by rfl) g__law_book_by k__law_book_by (d_acons (d_var (i := 4) (pe_var rfl (.inl rfl))) (d_acons (d_var (i := 7) (pe_var rfl (.inl rfl))) (d_acons (d_var (i := 8) (pe_var rfl (.inl rfl))) d_anil)))) d_anil)) (by rfl))))) (d_one (d_ret d_bl)) d_nil)
  (d_seq (d_if (dt_cmp (o_ne (r64 ok.room)) (d_cb (c_repr ok.guards (r64 ok.room)) (by rfl) z_repr boot_repr (d_acons (d_callK0 f_renamed (ok.room.mono (by decide)) ok.guards ok.takes b_renamed_0_later_book_words dc_renamed rfl (by rfl) g_renamed k_renamed (d_kcons (d_var (i := 8) (pe_var rfl (.inl rfl))) (d_kcons (d_var (i := 4) (pe_var rfl (.inl rfl))) (d_kcons (d_var (i := 7) (pe_var rfl (.inl rfl))) d_knil)))) d_anil)) (d_cb (c_repr ok.guards (r64 ok.room)) (by rfl) z_repr boot_repr (d_acons (d_var (i := 10) (pe_var rfl (.inl rfl))) d_anil)) (by rfl)) (d_one (d_ret d_bl)) d_nil)
  (d_seq (d_if (dt_cmp (o_ne (r64 ok.room)) (d_cb (c_repr ok.guards (r64 ok.room)) (by rfl) z_repr boot_repr (d_acons (d_call f_renamed (ok.room.mono (by decide)) ok.guards ok.takes b_renamed_2 dc_renamed rfl (by rfl) g_renamed k_renamed (d_acons (d_var (i := 4) (pe_var rfl (.inl rfl))) (d_acons (d_var (i := 7) (pe_var rfl (.inl rfl))) d_anil))) d_anil)) (d_cb (c_repr ok.guards (r64 ok.room)) (by rfl) z_repr boot_repr (d_acons (d_call f__law_book_by (ok.room.mono (by decide)) ok.guards ok.takes b__law_book_by_3 (fun _ _ => rfl) rfl (by rfl) g__law_book_by k__law_book_by (d_acons (d_var (i := 4) (pe_var rfl (.inl rfl))) (d_acons (d_var (i := 7) (pe_var rfl (.inl rfl))) (d_acons d_int d_anil)))) d_anil)) (by rfl)) (d_one (d_ret d_bl)) d_nil)
  (d_seq (d_set (i := 11) (ps_set sc_law.nd rfl (.inl rfl) (d_cb (c_repr ok.guards (r64 ok.room)) (by rfl) z_repr boot_repr (d_acons (d_call f__law_book_by (ok.room.mono (by decide)) ok.guards ok.takes b__law_book_by_3 (fun _ _ => rfl) rfl (by rfl) g__law_book_by k__law_book_by (d_acons (d_var (i := 4) (pe_var rfl (.inl rfl))) (d_acons (d_tupK d_anil) (d_acons (d_var (i := 8) (pe_var rfl (.inl rfl))) d_anil)))) d_anil))))
  (d_seq (d_if (dt_cmp (o_ne (r64 ok.room)) (d_lst (d_acons (d_cb (c_repr ok.guards (r64 ok.room)) (by rfl) z_repr boot_repr (d_acons (d_callK f_renamed (ok.room.mono (by decide)) ok.guards ok.takes b_renamed_1_later dc_renamed rfl (by rfl) g_renamed k_renamed (d_acons (d_var (i := 4) (pe_var rfl (.inl rfl))) d_anil) (d_kcons (d_var (i := 8) (pe_var rfl (.inl rfl))) d_knil)) d_anil)) (d_acons (d_cb (c_repr ok.guards (r64 ok.room)) (by rfl) z_repr boot_repr (d_acons (d_call f_renamed (ok.room.mono (by decide)) ok.guards ok.takes b_renamed_3 dc_renamed rfl (by rfl) g_renamed k_renamed (d_acons (d_var (i := 4) (pe_var rfl (.inl rfl))) (d_acons d_non (d_acons (d_var (i := 8) (pe_var rfl (.inl rfl))) d_anil)))) d_anil)) d_anil))) (d_lst (d_acons (d_var (i := 11) (pe_var rfl (.inl rfl))) (d_acons (d_var (i := 11) (pe_var rfl (.inl rfl))) d_anil))) (by rfl)) (d_one (d_ret d_bl)) d_nil)
  (d_seq (d_set (i := 12) (ps_set sc_law.nd rfl (.inl rfl) (d_ct c_tupleK (by rfl) z_tuple boot_tuple (d_acons (d_lc ok.calm sc_law.nd (d_iseq (d_var (i := 7) (pe_var rfl (.inl rfl)))) (blkOk_by (own := [("_law_elder", 14), ("_law_newer", 15)]) (show blkC ["_law_script", "_law_feed_here", "_law_house_here", "_law_guests_here", "_law_pages_now", "_law_every", "_law_turn", "_law_pairs_here", "_law_more", "_law_handed", "_law_told", "_law_want", "_law_contrary", "_law_alone", "_law_elder", "_law_newer"] (defScope (top 18)) _ _ = true from by decide +kernel)) (by decide) (fun _ _ _ _ _ => (d_gtup ok.calm (d_gscons (d_gname (i := 14) (pg_name sc_law.nd rfl (.inl rfl))) (d_gscons (d_gname (i := 15) (pg_name sc_law.nd rfl (.inl rfl))) d_gsnil)))) (fun _ _ _ _ _ => dt_yes) (fun _ _ _ _ _ => (d_tup (d_acons (d_var (i := 15) (pe_var rfl (.inl rfl))) (d_acons (d_var (i := 14) (pe_var rfl (.inl rfl))) d_anil))))) d_anil))))
  (d_seq (d_if (dt_cmp (o_ne (r64 ok.room)) (d_cb (c_repr ok.guards (r64 ok.room)) (by rfl) z_repr boot_repr (d_acons (d_callK f_renamed (ok.room.mono (by decide)) ok.guards ok.takes b_renamed_1_words dc_renamed rfl (by rfl) g_renamed k_renamed (d_acons (d_callK f_renamed (ok.room.mono (by decide)) ok.guards ok.takes b_renamed_1_words dc_renamed rfl (by rfl) g_renamed k_renamed (d_acons (d_var (i := 4) (pe_var rfl (.inl rfl))) d_anil) (d_kcons (d_var (i := 7) (pe_var rfl (.inl rfl))) d_knil)) d_anil) (d_kcons (d_var (i := 12) (pe_var rfl (.inl rfl))) d_knil)) d_anil)) (d_cb (c_repr ok.guards (r64 ok.room)) (by rfl) z_repr boot_repr (d_acons (d_var (i := 4) (pe_var rfl (.inl rfl))) d_anil)) (by rfl)) (d_one (d_ret d_bl)) d_nil)
  (d_one (d_if (dt_cmp (o_ne (r64 ok.room)) (d_cb (c_repr ok.guards (r64 ok.room)) (by rfl) z_repr boot_repr (d_acons (d_tup (d_acons (d_var (i := 4) (pe_var rfl (.inl rfl))) (d_acons (d_var (i := 7) (pe_var rfl (.inl rfl))) d_anil))) d_anil)) (d_var (i := 9) (pe_var rfl (.inl rfl))) (by rfl)) (d_one (d_ret d_bl)) d_nil)))))))))))))
  (d_seq (d_set (i := 13) (ps_set sc_law.nd rfl (.inl rfl) (d_tupK (d_acons (d_tup (d_acons (d_ix (r1 ok.room) (d_var (i := 5) (pe_var rfl (.inl rfl))) (d_un u_neg d_int) (fun _ _ => rfl)) (d_acons d_str d_anil))) d_anil))))
  (d_seq (d_if (dt_cmp (o_ne (r64 ok.room)) (d_cb (c_repr ok.guards (r64 ok.room)) (by rfl) z_repr boot_repr (d_acons (d_call f_renamed (ok.room.mono (by decide)) ok.guards ok.takes b_renamed_2 dc_renamed rfl (by rfl) g_renamed k_renamed (d_acons (d_var (i := 4) (pe_var rfl (.inl rfl))) (d_acons (d_var (i := 13) (pe_var rfl (.inl rfl))) d_anil))) d_anil)) (d_cb (c_repr ok.guards (r64 ok.room)) (by rfl) z_repr boot_repr (d_acons (d_call f__law_book_by (ok.room.mono (by decide)) ok.guards ok.takes b__law_book_by_3 (fun _ _ => rfl) rfl (by rfl) g__law_book_by k__law_book_by (d_acons (d_var (i := 4) (pe_var rfl (.inl rfl))) (d_acons (d_var (i := 13) (pe_var rfl (.inl rfl))) (d_acons d_int d_anil)))) d_anil)) (by rfl)) (d_one (d_ret d_bl)) d_nil)
  (d_seq (d_set (i := 10) (ps_set sc_law.nd rfl (.inl rfl) (d_lst (d_acons (d_call f_renamed (ok.room.mono (by decide)) ok.guards ok.takes b_renamed_1 dc_renamed rfl (by rfl) g_renamed k_renamed (d_acons (d_var (i := 4) (pe_var rfl (.inl rfl))) d_anil)) (d_acons (d_call f_renamed (ok.room.mono (by decide)) ok.guards ok.takes b_renamed_2 dc_renamed rfl (by rfl) g_renamed k_renamed (d_acons (d_var (i := 4) (pe_var rfl (.inl rfl))) (d_acons (d_tupK d_anil) d_anil))) (d_acons (d_callK f_renamed (ok.room.mono (by decide)) ok.guards ok.takes b_renamed_1_later dc_renamed rfl (by rfl) g_renamed k_renamed (d_acons (d_tupK d_anil) d_anil) (d_kcons d_int d_knil)) d_anil))))))
  (d_one (d_ret (d_cmp (o_eq (r64 ok.room)) (d_cb (c_repr ok.guards (r64 ok.room)) (by rfl) z_repr boot_repr (d_acons (d_var (i := 10) (pe_var rfl (.inl rfl))) d_anil)) (d_cb (c_repr ok.guards (r64 ok.room)) (by rfl) z_repr boot_repr (d_acons (d_lst (d_acons (d_var (i := 4) (pe_var rfl (.inl rfl))) (d_acons (d_var (i := 4) (pe_var rfl (.inl rfl))) (d_acons (d_tupK d_anil) d_anil)))) d_anil)) (by rfl))))))))))))
end
end Lw

set_option Elab.async false
set_option linter.all false
set_option maxRecDepth 100000
set_option maxHeartbeats 4000000
namespace Tr
open PySem PySem.Spec PyProof.Rows L2

/-! ### what a function comes to -/
def wpR {α : Type} (r : R α) (Q : α → Mem → Prop) : Prop := match r with
  | .ok a M => Q a M
  | _ => False
def wpS (r : R (Fl × DEnv)) (Q : Fl → DEnv → Mem → Prop) : Prop := match r with
  | .ok (.ex _, _) _ => False
  | .ok (fl, env) M => Q fl env M
  | _ => False
section
variable {α β : Type} {Q : α → Mem → Prop} {q : β → Mem → Prop} {S : Fl → DEnv → Mem → Prop} {M : Mem} {env : DEnv}
theorem wpR_mono {r : R α} {Q Q' : α → Mem → Prop} (h : wpR r Q) (i : ∀ a M, Q a M → Q' a M) : wpR r Q' := by
  cases r with
  | ok a M => exact i a M h
  | exc x M => exact h
  | bad => exact h
theorem wpR_ex {r : R α} (h : wpR r Q) : ∃ a M, r = .ok a M ∧ Q a M := by
  cases r with
  | ok a M => exact ⟨a, M, rfl, h⟩
  | exc x M => exact h.elim
  | bad => exact h.elim
@[simp] theorem wpR_ok {a : α} : wpR (.ok a M) Q = Q a M := rfl
@[simp] theorem wpR_bad : wpR (.bad : R α) Q = False := rfl
@[simp] theorem wpR_bind {r : R α} {f : α → Mem → R β} : wpR (r.bind f) q = wpR r fun a M1 => wpR (f a M1) q := by
  cases r <;> rfl
@[simp] theorem wpR_no {r : R α} : wpR r.no Q = wpR r Q := by
  cases r <;> rfl
@[simp] theorem wpS_ok_nx : wpS (.ok (.nx, env) M) S = S .nx env M := rfl
@[simp] theorem wpS_ok_bk : wpS (.ok (.bk, env) M) S = S .bk env M := rfl
@[simp] theorem wpS_ok_ct : wpS (.ok (.ct, env) M) S = S .ct env M := rfl
@[simp] theorem wpS_ok_rt {d : D} : wpS (.ok (.rt d, env) M) S = S (.rt d) env M := rfl
@[simp] theorem wpS_bad : wpS .bad S = False := rfl
@[simp] theorem wpS_st {r : R α} {f : α → Mem → R (Fl × DEnv)} : wpS (r.st env f) S = wpR r fun a M1 => wpS (f a M1) S := by
  cases r <;> rfl
@[simp] theorem wpS_bindR {r : R α} {f : α → Mem → R (Fl × DEnv)} : wpS (r.bind f) S = wpR r fun a M1 => wpS (f a M1) S := by
  cases r <;> rfl
@[simp] theorem wpS_if {c : Prop} [Decidable c] {a b : R (Fl × DEnv)} : wpS (if c then a else b) S = if c then wpS a S else wpS b S := by
  split <;> rfl
@[simp] theorem wpR_if {c : Prop} [Decidable c] {a b : R α} : wpR (if c then a else b) Q = if c then wpR a Q else wpR b Q := by
  split <;> rfl
/-! statements -/
@[simp] theorem wp_seq {f g : SF} : wpS (sSeq f g env M) S = wpS (f env M) fun fl e1 M1 => match fl with
    | .nx => wpS (g e1 M1) S
    | fl => S fl e1 M1 := by
  unfold sSeq
  cases f env M with
  | ok p M1 =>
    obtain ⟨fl, e1⟩ := p
    cases fl <;> rfl
  | exc x M1 => rfl
  | bad => rfl
@[simp] theorem wp_pass : wpS (sPass env M) S = S .nx env M := rfl
@[simp] theorem wp_never : wpS (sNever env M) S = False := rfl
@[simp] theorem wp_expr {fa : EF} : wpS (sExpr fa env M) S = wpR (fa env M) fun _ M1 => S .nx env M1 := by simp [sExpr]
@[simp] theorem wp_ret {fa : EF} : wpS (sRet fa env M) S = wpR (fa env M) fun d M1 => S (.rt d) env M1 := by simp [sRet]
@[simp] theorem wp_retN : wpS (sRetN env M) S = S (.rt .non) env M := rfl
@[simp] theorem wp_ifS {t : TF} {f g : SF} : wpS (sIf t f g env M) S = wpR (t env M) fun b M1 => if b = true then wpS (f env M1) S else wpS (g env M1) S := by simp [sIf]
@[simp] theorem wp_set {i : Nat} {fa : EF} : wpS (sSet i fa env M) S = wpR (fa env M) fun d M1 => S .nx (env.set i (some d)) M1 := by simp [sSet]
@[simp] theorem wp_asg {fa : EF} {ft : GF} : wpS (sAsg fa ft env M) S = wpR (fa env M) fun d M1 => wpR (ft d env M1) fun e1 M2 => S .nx e1 M2 := by simp [sAsg]
@[simp] theorem wp_par {i j : Nat} {fr : AF} : wpS (sPar i j fr env M) S = wpR (fr env M) fun ds M1 => match ds with
    | [d1, d2] => S .nx ((env.set i (some d1)).set j (some d2)) M1
    | _ => False := by
  simp only [sPar, wpS_st]
  congr 1
  funext ds M1
  rcases ds with _ | ⟨d1, _ | ⟨d2, _ | ⟨d3, t⟩⟩⟩ <;> rfl
@[simp] theorem wp_par3 {i j l : Nat} {fr : AF} : wpS (sPar3 i j l fr env M) S = wpR (fr env M) fun ds M1 => match ds with
    | [d1, d2, d3] => S .nx (((env.set i (some d1)).set j (some d2)).set l (some d3)) M1
    | _ => False := by
  simp only [sPar3, wpS_st]
  congr 1
  funext ds M1
  rcases ds with _ | ⟨d1, _ | ⟨d2, _ | ⟨d3, _ | ⟨d4, t⟩⟩⟩⟩ <;> rfl
theorem wp_run {n : Nat} {f : SF} {ds : List D} {Q : D → Mem → Prop} : wpR (runB n f ds M) Q = wpS (f (startD n ds) M) fun fl _ M1 => match fl with
    | .nx => Q .non M1
    | .rt d => Q d M1
    | _ => False := by
  unfold runB
  cases f (startD n ds) M with
  | ok p M1 =>
    obtain ⟨fl, e1⟩ := p
    cases fl <;> rfl
  | exc x M1 => rfl
  | bad => rfl
/-! expressions -/
@[simp] theorem wp_var {i : Nat} {Q : D → Mem → Prop} : wpR (eVar i env M) Q = match env[i]? with
    | some (some d) => Q d M
    | _ => False := by
  unfold eVar
  rcases env[i]? with _ | _ | d <;> rfl
@[simp] theorem wp_K {d : D} {Q : D → Mem → Prop} : wpR (eK d env M) Q = Q d M := rfl
@[simp] theorem wp_anil {Q : List D → Mem → Prop} : wpR (aNil env M) Q = Q [] M := rfl
@[simp] theorem wp_acons {fa : EF} {fr : AF} {Q : List D → Mem → Prop} : wpR (aCons fa fr env M) Q = wpR (fa env M) fun x M1 => wpR (fr env M1) fun xs M2 => Q (x :: xs) M2 := by simp [aCons]
@[simp] theorem wp_bin {g : D → D → Mem → R D} {fa fb : EF} {Q : D → Mem → Prop} : wpR (eBin g fa fb env M) Q = wpR (fa env M) fun x M1 => wpR (fb env M1) fun y M2 => wpR (g x y M2) Q := by simp [eBin]
@[simp] theorem wp_tup {fr : AF} {Q : D → Mem → Prop} : wpR (eTup fr env M) Q = wpR (fr env M) fun ds M1 => ds.length ≤ lim ∧ Q (.tup ds) M1 := by
  simp only [eTup, wpR_bind, wpR_if, wpR_ok, wpR_bad]
  congr 1; funext ds M1
  by_cases h : ds.length ≤ lim <;> simp [h]
@[simp] theorem wp_tupK {fr : AF} {Q : D → Mem → Prop} : wpR (eTupK fr env M) Q = wpR (fr env M) fun ds M1 => ds.length ≤ lim ∧ Q (.ktup ds) M1 := by
  simp only [eTupK, wpR_bind, wpR_if, wpR_ok, wpR_bad]
  congr 1; funext ds M1
  by_cases h : ds.length ≤ lim <;> simp [h]
@[simp] theorem wp_lst {fr : AF} {Q : D → Mem → Prop} : wpR (eLst fr env M) Q = wpR (fr env M) fun ds M1 => ds.length ≤ lim ∧ Q (.obj M1.length) (M1 ++ [.lst ds]) := by
  simp only [eLst, wpR_bind, wpR_if, wpR_ok, wpR_bad]
  congr 1; funext ds M1
  by_cases h : ds.length ≤ lim <;> simp [h]
@[simp] theorem wp_call {n m : Nat} {plan : List Ix} {dfl : List D} {F : FF} {fr fk : AF} {Q : D → Mem → Prop} : wpR (eCall n m plan dfl F fr fk env M) Q = wpR (fr env M) fun xs M1 => wpR (fk env M1) fun ks M2 => wpR (callD n m plan dfl F xs ks M2) Q := by simp [eCall]
@[simp] theorem wp_cb {g : CF} {fr : AF} {Q : D → Mem → Prop} : wpR (eCB g fr env M) Q = wpR (fr env M) fun xs M1 => wpR (g xs M1) Q := by simp [eCB]
@[simp] theorem wp_ifE {t : TF} {fa fb : EF} {Q : D → Mem → Prop} : wpR (eIf t fa fb env M) Q = wpR (t env M) fun b M1 => if b = true then wpR (fa env M1) Q else wpR (fb env M1) Q := by simp [eIf]
@[simp] theorem wp_tOf {fa : EF} {Q : Bool → Mem → Prop} : wpR (tOf fa env M) Q = wpR (fa env M) fun d M1 => match d with
    | .bl b => Q b M1
    | _ => False := by
  simp only [tOf, wpR_bind]
  congr 1; funext d M1
  cases d <;> rfl
@[simp] theorem wp_tAnd {a b : TF} {Q : Bool → Mem → Prop} : wpR (tAndD a b env M) Q = wpR (a env M) fun c M1 => if c = true then wpR (b env M1) Q else Q false M1 := by simp [tAndD]
@[simp] theorem wp_tOr {a b : TF} {Q : Bool → Mem → Prop} : wpR (tOrD a b env M) Q = wpR (a env M) fun c M1 => if c = true then Q true M1 else wpR (b env M1) Q := by simp [tOrD]
@[simp] theorem wp_tNot {a : TF} {Q : Bool → Mem → Prop} : wpR (tNotD a env M) Q = wpR (a env M) fun c M1 => Q (!c) M1 := by simp [tNotD]
@[simp] theorem wp_tYes {Q : Bool → Mem → Prop} : wpR (tfYes env M) Q = Q true M := rfl
@[simp] theorem wp_and {a b : EF} {Q : D → Mem → Prop} : wpR (eAnd a b env M) Q = wpR (a env M) fun d M1 => match d with
    | .bl true => wpR (b env M1) Q
    | .bl false => Q (.bl false) M1
    | _ => False := by
  simp only [eAnd, wpR_bind]
  congr 1; funext d M1
  cases d with
  | bl b => cases b <;> rfl
  | _ => rfl
@[simp] theorem wp_sl {fa : EF} {l h : OF} {Q : D → Mem → Prop} : wpR (eSl fa l h env M) Q = wpR (fa env M) fun x M1 => wpR (l env M1) fun lo M2 => wpR (h env M2) fun hi M3 => wpR (gSl x lo hi M3) Q := by simp [eSl]
@[simp] theorem wp_oN {Q : Option Int → Mem → Prop} : wpR (oNone env M) Q = Q none M := rfl
@[simp] theorem wp_oS {fa : EF} {Q : Option Int → Mem → Prop} : wpR (oSome fa env M) Q = wpR (fa env M) fun d M1 => match d with
    | .int i => Q (some i) M1
    | _ => False := by
  simp only [oSome, wpR_bind]
  congr 1; funext d M1
  cases d <;> rfl
@[simp] theorem wp_mt {Ty : String} {g : MF} {fo : EF} {fr : AF} {Q : D → Mem → Prop} : wpR (eMt Ty g fo fr env M) Q = wpR (fo env M) fun x M1 => tyD Ty x M1 = true ∧ wpR (fr env M1) fun xs M2 => wpR (g x xs M2) Q := by
  simp only [eMt, wpR_bind]
  congr 1; funext d M1
  by_cases h : tyD Ty d M1 = true <;> simp [h]
@[simp] theorem wp_kget {t : KTab} {fa fb : EF} {Q : D → Mem → Prop} : wpR (eKGet t fa fb env M) Q = wpR (fa env M) fun x M1 => wpR (fb env M1) fun y M2 => match x with
    | .str z => Q ((ktGet t z).getD y) M2
    | _ => False := by
  simp only [eKGet, wpR_bind]
  congr 1; funext d M1; congr 1; funext d' M2
  cases d <;> rfl
/-! targets -/
@[simp] theorem wp_gname {i : Nat} {d : D} {Q : DEnv → Mem → Prop} : wpR (gtName i d env M) Q = Q (env.set i (some d)) M := rfl
@[simp] theorem wp_gtup {n : Nat} {g : GsF} {d : D} {Q : DEnv → Mem → Prop} : wpR (gtTup n g d env M) Q = match tupD d with
    | some ds => ds.length = n ∧ wpR (g ds env M) Q
    | none => False := by
  unfold gtTup
  cases tupD d with
  | none => rfl
  | some ds => by_cases h : ds.length = n <;> simp [h]
@[simp] theorem wp_gnil {Q : DEnv → Mem → Prop} : wpR (gtsNil [] env M) Q = Q env M := rfl
@[simp] theorem wp_gcons {f : GF} {g : GsF} {d : D} {ds : List D} {Q : DEnv → Mem → Prop} : wpR (gtsCons f g (d :: ds) env M) Q = wpR (f d env M) fun e1 M1 => wpR (g ds e1 M1) Q := by simp [gtsCons]
@[simp] theorem wp_gsub {fo fi : EF} {d : D} {Q : DEnv → Mem → Prop} : wpR (gtSub fo fi d env M) Q = wpR (fo env M) fun x M1 => wpR (fi env M1) fun i M2 => match gSet x i d M2 with
    | some M3 => Q env M3
    | none => False := by
  simp only [gtSub, wpR_bind]
  congr 1; funext x M1; congr 1; funext i M2
  cases gSet x i d M2 <;> rfl
end
end Tr

set_option Elab.async false
set_option linter.all false
set_option maxRecDepth 100000
set_option maxHeartbeats 4000000
namespace Tr
open PySem PySem.Spec PyProof.Rows L2

/-! ### items -/
theorem atI_nat {α : Type} (xs : List α) (n : Nat) : atI xs (n : Int) = xs[n]? := by
  unfold atI ixN
  rw [if_pos (Int.natCast_nonneg n)]
  by_cases h : n < xs.length
  · rw [if_pos (by omega)]
    simp
  · rw [if_neg (by omega)]
    simp
    omega
theorem atI_ofNat {α : Type} (xs : List α) (n : Nat) : atI xs (OfNat.ofNat n : Int) = xs[n]? := atI_nat xs n
@[simp] theorem atI_0 {α : Type} (xs : List α) : atI xs 0 = xs[0]? := atI_nat xs 0
@[simp] theorem atI_1 {α : Type} (xs : List α) : atI xs 1 = xs[1]? := atI_nat xs 1
@[simp] theorem atI_2 {α : Type} (xs : List α) : atI xs 2 = xs[2]? := atI_nat xs 2
@[simp] theorem atI_3 {α : Type} (xs : List α) : atI xs 3 = xs[3]? := atI_nat xs 3
@[simp] theorem atI_4 {α : Type} (xs : List α) : atI xs 4 = xs[4]? := atI_nat xs 4
@[simp] theorem atI_5 {α : Type} (xs : List α) : atI xs 5 = xs[5]? := atI_nat xs 5
theorem atI_in {α : Type} {xs : List α} {i : Int} (h0 : 0 ≤ i) (h1 : i < xs.length) : ∃ d, atI xs i = some d ∧ xs[i.toNat]? = some d ∧ d ∈ xs := by
  obtain ⟨n, rfl⟩ := Int.eq_ofNat_of_zero_le h0
  have hn : n < xs.length := by omega
  exact ⟨xs[n], by rw [atI_nat, List.getElem?_eq_getElem hn], by simp [hn], List.getElem_mem hn⟩
/-- from behind -/
theorem atI_neg {α : Type} {xs : List α} {i : Int} (h0 : i < 0) (h1 : -(xs.length : Int) ≤ i) : ∃ d, atI xs i = some d ∧ d ∈ xs := by
  have hn : (i + xs.length).toNat < xs.length := by omega
  refine ⟨xs[(i + xs.length).toNat], ?_, List.getElem_mem hn⟩
  unfold atI ixN
  rw [if_neg (by omega), if_pos h1]
  simp [hn]
theorem atI_any {α : Type} {xs : List α} {i : Int} (h0 : -(xs.length : Int) ≤ i) (h1 : i < xs.length) : ∃ d, atI xs i = some d ∧ d ∈ xs := by
  by_cases h : 0 ≤ i
  · obtain ⟨d, a, _, b⟩ := atI_in h h1
    exact ⟨d, a, b⟩
  · exact atI_neg (by omega) h0
theorem ix_obj {j : Nat} {i : Int} {xs : List D} {M : Mem} {Q : D → Mem → Prop} (h : M[j]? = some (.lst xs)) : wpR (gIx (.obj j) (.int i) M) Q = match atI xs i with
    | some d => Q d M
    | none => False := by
  have : gIx (.obj j) (.int i) M = match atI xs i with
    | some d => .ok d M
    | none => .bad := by
    first
      | (simp only [gIx, seqD, h]; done)
      | (simp only [gIx, seqD, h]; cases atI xs i <;> rfl)
  rw [this]
  cases atI xs i <;> rfl
@[simp] theorem ix_tup {i : Int} {xs : List D} {M : Mem} {Q : D → Mem → Prop} : wpR (gIx (.tup xs) (.int i) M) Q = match atI xs i with
    | some d => Q d M
    | none => False := by
  have : gIx (.tup xs) (.int i) M = match atI xs i with
    | some d => .ok d M
    | none => .bad := rfl
  rw [this]
  cases atI xs i <;> rfl
/-! ### numbers -/
section
variable {i j : Int} {M : Mem} {Q : D → Mem → Prop}
@[simp] theorem wp_add : wpR (gAdd (.int i) (.int j) M) Q = Q (.int (i + j)) M := rfl
@[simp] theorem wp_sub : wpR (gSub (.int i) (.int j) M) Q = Q (.int (i - j)) M := rfl
@[simp] theorem wp_mul : wpR (gMul (.int i) (.int j) M) Q = (cMul i j = true ∧ Q (.int (i * j)) M) := by
  show wpR (if cMul i j = true then _ else _) Q = _
  by_cases h : cMul i j = true <;> simp [h]
@[simp] theorem wp_mod : wpR (gMod (.int i) (.int j) M) Q = (0 < j ∧ Q (.int (i % j)) M) := by
  show wpR (if cMod i j = true then _ else _) Q = _
  by_cases h : 0 < j <;> simp [h, cMod]
@[simp] theorem wp_fdiv : wpR (gFdiv (.int i) (.int j) M) Q = ((0 < j ∧ j < 1073741824) ∧ Q (.int (i / j)) M) := by
  show wpR (if cDiv i j = true then _ else _) Q = _
  by_cases h : 0 < j ∧ j < 1073741824 <;> simp [h, cDiv]
@[simp] theorem wp_pow : wpR (gPow (.int i) (.int j) M) Q = (cPow i j = true ∧ Q (.int (i ^ j.toNat)) M) := by
  show wpR (if cPow i j = true then _ else _) Q = _
  by_cases h : cPow i j = true <;> simp [h]
@[simp] theorem wp_lt : wpR (gLt (.int i) (.int j) M) Q = Q (.bl (decide (i < j))) M := rfl
@[simp] theorem wp_le : wpR (gLe (.int i) (.int j) M) Q = Q (.bl (decide (i ≤ j))) M := rfl
@[simp] theorem wp_gt : wpR (gGt (.int i) (.int j) M) Q = Q (.bl (decide (j < i))) M := rfl
@[simp] theorem wp_ge : wpR (gGe (.int i) (.int j) M) Q = Q (.bl (decide (j ≤ i))) M := rfl
@[simp] theorem wp_eqI : wpR (gEq (.int i) (.int j) M) Q = Q (.bl (decide (i = j))) M := rfl
@[simp] theorem wp_neI : wpR (gNe (.int i) (.int j) M) Q = Q (.bl (!decide (i = j))) M := rfl
@[simp] theorem wp_eqS {x y : Str} : wpR (gEq (.str x) (.str y) M) Q = Q (.bl (decide (x = y))) M := rfl
@[simp] theorem wp_neS {x y : Str} : wpR (gNe (.str x) (.str y) M) Q = Q (.bl (!decide (x = y))) M := rfl
end
/-! ### data -/
theorem pds_int (f : Nat → Option PyData) : ∀ cs : List Int, pdsW f (cs.map D.int) = some (cs.map PyData.int)
  | [] => rfl
  | c :: cs => by
    have ih := pds_int f cs
    simp only [List.map_cons, pdsW, pdW, ih]
theorem pds_str (f : Nat → Option PyData) : ∀ cs : List Str, pdsW f (cs.map D.str) = some (cs.map PyData.str)
  | [] => rfl
  | c :: cs => by
    have ih := pds_str f cs
    simp only [List.map_cons, pdsW, pdW, ih]
theorem ints_lay : ∀ cs : List Int, PyData.canLayAll0 (cs.map PyData.int) = true ∧ PyData.depthAll (cs.map PyData.int) = 0
  | [] => ⟨by simp [PyData.canLayAll0], by simp [PyData.depthAll]⟩
  | c :: cs => by
    obtain ⟨h1, h2⟩ := ints_lay cs
    exact ⟨by simp [PyData.canLayAll0, PyData.canLay0, h1], by simp [PyData.depthAll, PyData.depth, h2]⟩
theorem ints_shaped (cs : List Int) : SeqAt.shaped (.list (cs.map PyData.int)) = true := by
  obtain ⟨h1, h2⟩ := ints_lay cs
  show (PyData.canLay0 (.list (cs.map PyData.int)) && decide (PyData.depth (.list (cs.map PyData.int)) ≤ 64)) = true
  simp [PyData.canLay0, PyData.depth, h1, h2]
theorem ne_nil {c e : Nat} {cs : List Int} {M : Mem} (h1 : M[c]? = some (.lst (cs.map D.int))) (h2 : M[e]? = some (.lst [])) : gNe (.obj c) (.obj e) M = .ok (.bl (!cs.isEmpty)) M := by
  have p1 : pd M (.obj c) = some (.list (cs.map PyData.int)) := by
    show pdO M 4 c = _
    simp only [pdO, h1, pds_int, Option.map_some]
  have p2 : pd M (.obj e) = some (.list []) := by
    show pdO M 4 e = _
    simp only [pdO, h2, pdsW, Option.map_some]
  have q : eqD M (.obj c) (.obj e) = some (cs.isEmpty) := by
    unfold eqD
    rw [show scalD (.obj c) (.obj e) = none from rfl, p1, p2]
    dsimp only
    rw [if_pos ⟨ints_shaped cs, ints_shaped []⟩]
    cases cs <;> simp [PyData.eqv, PyData.eqvAll]
  unfold gNe
  rw [q]
/-! ### what stays -/
/-- but for the things at fs all stays; there may be more -/
def Ext (fs : List Nat) (M M' : Mem) : Prop := M.length ≤ M'.length ∧ ∀ i, i ∉ fs → i < M.length → M'[i]? = M[i]?
theorem Ext.refl (fs : List Nat) (M : Mem) : Ext fs M M := ⟨Nat.le_refl _, fun _ _ _ => rfl⟩
theorem Ext.trans {fs : List Nat} {A B C : Mem} (x : Ext fs A B) (y : Ext fs B C) : Ext fs A C := ⟨Nat.le_trans x.1 y.1, fun i h l => (y.2 i h (Nat.lt_of_lt_of_le l x.1)).trans (x.2 i h l)⟩
theorem Ext.get {fs : List Nat} {A B : Mem} (x : Ext fs A B) {i : Nat} {m : MO} (h : i ∉ fs) (e : A[i]? = some m) : B[i]? = some m := (x.2 i h (List.getElem?_eq_some_iff.mp e).1).trans e
theorem Ext.push {fs : List Nat} (M N : Mem) : Ext fs M (M ++ N) := ⟨by simp, fun i _ l => List.getElem?_append_left l⟩
theorem Ext.set {fs : List Nat} (M : Mem) {i : Nat} {m : MO} (h : i ∈ fs) : Ext fs M (M.set i m) := ⟨by simp, fun j hj l => List.getElem?_set_ne (fun e => hj (by rw [← e]; exact h))⟩
theorem Ext.weak {fs gs : List Nat} {A B : Mem} (x : Ext fs A B) (h : ∀ i ∈ fs, i ∈ gs) : Ext gs A B := ⟨x.1, fun i hi l => x.2 i (fun z => hi (h i z)) l⟩
/-- what is new may have changed -/
theorem Ext.fresh {fs gs : List Nat} {A B : Mem} (x : Ext fs A B) (h : ∀ i ∈ fs, i ∈ gs ∨ A.length ≤ i) : Ext gs A B := ⟨x.1, fun i hi l => x.2 i (fun z => (h i z).elim hi (fun q => absurd l (Nat.not_lt.mpr q))) l⟩
/-- the feed of a law: at f [cells, at, left], the cells at c; at most n were drawn -/
structure Feed (f c : Nat) (cs : List Int) (M : Mem) (n : Nat) : Prop where
  ne : f ≠ c
  ex : ∃ at_ left : Int, M[f]? = some (.lst [.obj c, .int at_, .int left]) ∧ 0 ≤ at_ ∧ at_ ≤ n
  cl : M[c]? = some (.lst (cs.map .int))
theorem Feed.mono {f c : Nat} {cs : List Int} {M : Mem} {n m : Nat} (h : Feed f c cs M n) (l : n ≤ m) : Feed f c cs M m := ⟨h.ne, by obtain ⟨a, b, p, q, r⟩ := h.ex; exact ⟨a, b, p, q, by omega⟩, h.cl⟩
theorem Feed.ext {f c : Nat} {cs : List Int} {M M' : Mem} {n : Nat} {gs : List Nat} (h : Feed f c cs M n) (x : Ext gs M M') (h1 : f ∉ gs) (h2 : c ∉ gs) : Feed f c cs M' n :=
  ⟨h.ne, by obtain ⟨a, b, p, q, r⟩ := h.ex; exact ⟨a, b, x.get h1 p, q, r⟩, x.get h2 h.cl⟩
end Tr
namespace Tr
open PySem PySem.Spec PyProof.Rows L2
theorem set_obj {j : Nat} {k : Nat} {v : D} {xs : List D} {M : Mem} (h : M[j]? = some (.lst xs)) (hk : k < xs.length) : gSet (.obj j) (.int (k : Int)) v M = some (M.set j (.lst (xs.set k v))) := by
  unfold gSet
  dsimp only
  rw [h]
  dsimp only
  have : ixN xs.length (k : Int) = some k := by
    unfold ixN
    rw [if_pos (Int.natCast_nonneg k), if_pos (by omega)]
    simp
  rw [this]
  rfl
theorem len_obj {j : Nat} {xs : List D} {M : Mem} {Q : D → Mem → Prop} (h : M[j]? = some (.lst xs)) : wpR (gLen [.obj j] M) Q = Q (.int xs.length) M := by
  simp [gLen, lenD, seqD, h]
@[simp] theorem len_tup {xs : List D} {M : Mem} {Q : D → Mem → Prop} : wpR (gLen [.tup xs] M) Q = Q (.int xs.length) M := by
  simp [gLen, lenD, seqD]
theorem get_set {M : Mem} {j : Nat} {m m' : MO} (h : M[j]? = some m) : (M.set j m')[j]? = some m' := by
  rw [List.getElem?_set_self (List.getElem?_eq_some_iff.mp h).1]
theorem get_set_ne {M : Mem} {j i : Nat} {m m' : MO} (n : j ≠ i) (h : M[i]? = some m) : (M.set j m')[i]? = some m := by
  rw [List.getElem?_set_ne n]; exact h
theorem get_push {M N : Mem} {i : Nat} {m : MO} (h : M[i]? = some m) : (M ++ N)[i]? = some m := by
  rw [List.getElem?_append_left (List.getElem?_eq_some_iff.mp h).1]; exact h
theorem get_new {M : Mem} {m : MO} : (M ++ [m])[M.length]? = some m := by simp
end Tr

set_option Elab.async false
set_option linter.all false
set_option maxRecDepth 100000
set_option maxHeartbeats 4000000
namespace Lw
open PySem PySem.Spec PyProof.Rows L2 Tr
theorem mul_at {i j : Int} (h : -(2 ^ 64) < i ∧ i < 2 ^ 64 ∨ -(2 ^ 64) < j ∧ j < 2 ^ 64) : cMul i j = true := by
  unfold cMul
  rw [Bool.or_eq_true, decide_eq_true_eq, decide_eq_true_eq]
  exact h
theorem next_wp {f c : Nat} {cs : List Int} {M : Mem} {n : Nat} {m : Int} {Q : D → Mem → Prop} (h : Feed f c cs M n) (hn : n < 1099511627776) (m1 : 1 ≤ m) (m2 : m < 1073741824)
    (q : ∀ (r : Int) (M' : Mem), 0 ≤ r → r < m → Feed f c cs M' (n + 1) → Ext [f] M M' → Q (.int r) M') : wpR (F__law_next [.obj f, .int m] M) Q := by
  obtain ⟨ne, ⟨at_, left, hf, a0, a1⟩, hc⟩ := id h
  have mpos : 0 < m := by omega
  have less : ∀ z : Int, 0 ≤ z % m ∧ z % m < m := fun z => ⟨Int.emod_nonneg z (by omega), Int.emod_lt_of_pos z mpos⟩
  have ext1 : ∀ xs, Ext [f] M (M.set f (.lst xs)) := fun xs => Ext.set M (by simp)
  unfold F__law_next B__law_next
  rw [wp_run]
  simp only [startD, ix_obj hf, wp_seq, wp_ifS, wp_tOf, wp_bin, wp_var, wp_K, wp_set, wp_asg, wp_gsub, wp_ret, wp_pass, wp_ifE, wp_lst, wp_anil, wp_acons, wp_cb, wp_tAnd, List.map_cons, List.map_nil, List.length_cons, List.length_nil,
    List.replicate, List.cons_append, List.nil_append, List.getElem?_cons_zero, List.getElem?_cons_succ, List.set_cons_zero, List.set_cons_succ, atI_0, atI_1, atI_2, wp_gt, wp_mod, wp_fdiv, wp_add]
  by_cases hl : 0 < left
  · simp only [hl, decide_true, if_true]
    refine ⟨mpos, ⟨mpos, m2⟩, ?_⟩
    have e := set_obj (k := 2) (v := .int (left / m)) hf (by simp)
    rw [show ((2 : Nat) : Int) = 2 from rfl] at e
    rw [e]
    dsimp only
    refine q _ _ (less _).1 (less _).2 ⟨ne, ⟨at_, left / m, get_set hf, a0, by omega⟩, get_set_ne ne hc⟩ (ext1 _)
  · simp only [hl, decide_false, Bool.false_eq_true, if_false]
    have e := set_obj (k := 1) (v := .int (at_ + 1)) hf (by simp)
    rw [show ((1 : Nat) : Int) = 1 from rfl] at e
    rw [e]
    dsimp only
    have hf1 := get_set (m' := .lst ([.obj c, .int at_, .int left].set 1 (.int (at_ + 1)))) hf
    have hc1 := get_set_ne (m' := .lst ([.obj c, .int at_, .int left].set 1 (.int (at_ + 1)))) ne hc
    have x1 := ext1 ([.obj c, .int at_, .int left].set 1 (.int (at_ + 1)))
    generalize M.set f (.lst ([.obj c, .int at_, .int left].set 1 (.int (at_ + 1)))) = M1 at hf1 hc1 x1 ⊢
    simp only [List.set_cons_zero, List.set_cons_succ] at hf1
    simp only [ix_obj hf1, atI_0, List.getElem?_cons_zero]
    refine ⟨Nat.zero_le _, ?_⟩
    have hf2 := get_push (N := [.lst []]) hf1
    have hc2 := get_push (N := [.lst []]) hc1
    have x2 : Ext [f] M (M1 ++ [.lst []]) := x1.trans (Ext.push M1 [.lst []])
    rw [ne_nil hc2 get_new]
    generalize M1 ++ [.lst []] = M2 at hf2 hc2 x2 ⊢
    simp only [wpR_ok, Bool.not_eq_true']
    have fin : ∀ r : Int, 0 ≤ r → r < m → Q (.int r) M2 := fun r r0 r1 => q r M2 r0 r1 ⟨ne, ⟨at_ + 1, left, hf2, by omega, by omega⟩, hc2⟩ x2
    have rest : ∀ cell : Int, cMul 37 at_ = true ∧ cMul (37 * at_) at_ = true ∧ cMul 13 at_ = true ∧ cMul ((cell % 1000003 + 37 * at_ * at_ + 13 * at_ + 5)) 48271 = true ∧
        cMul ((cell % 1000003 + 37 * at_ * at_ + 13 * at_ + 5) * 48271 % 999983) ((cell % 1000003 + 37 * at_ * at_ + 13 * at_ + 5) * 48271 % 999983) = true ∧ cMul 7919 at_ = true := fun cell => by
      have hlt : at_ < 2 ^ 64 := by omega
      have h5 : 0 ≤ (cell % 1000003 + 37 * at_ * at_ + 13 * at_ + 5) * 48271 % 999983 := Int.emod_nonneg _ (by decide)
      have h6 : (cell % 1000003 + 37 * at_ * at_ + 13 * at_ + 5) * 48271 % 999983 < 999983 := Int.emod_lt_of_pos _ (by decide)
      exact ⟨mul_at (.inl (by decide)), mul_at (.inr (by omega)), mul_at (.inl (by decide)), mul_at (.inr (by decide)), mul_at (.inl (by omega)), mul_at (.inl (by decide))⟩
    have mul2 : ∀ z : Int, cMul (z % 2097143) 69621 = true := fun z => mul_at (.inr (by decide))
    cases hcs : cs.isEmpty with
    | true =>
      have z := rest 0
      simp only [Int.zero_emod, Int.zero_add] at z
      obtain ⟨z1, z2, z3, z4, z5, z6⟩ := z
      simp [hcs, z1, z2, z3, z4, z5, z6, mul2, mpos]
      exact ⟨by decide, fin _ (less _).1 (less _).2⟩
    | false =>
      have ne0 : cs ≠ [] := fun z => by rw [z] at hcs; cases hcs
      have lpos : (0 : Int) < cs.length := by
        have := List.length_pos_iff.mpr ne0
        omega
      obtain ⟨d, e1, e2, e3⟩ := atI_in (xs := cs.map D.int) (i := at_ % cs.length) (Int.emod_nonneg _ (by omega)) (by rw [List.length_map]; exact Int.emod_lt_of_pos _ lpos)
      obtain ⟨cell, _, rfl⟩ := List.mem_map.mp e3
      simp [hcs, ix_obj hf2, len_obj hc2, ix_obj hc2, lpos, e1]
      obtain ⟨z1, z2, z3, z4, z5, z6⟩ := rest cell
      simp only [z1, z2, z3, z4, z5, z6, mul2, mpos, m2, true_and, and_self]
      refine ⟨by omega, by decide, ?_⟩
      split
      · split
        · have e := set_obj (k := 2) (v := .int (cell / m)) hf2 (by simp)
          rw [show ((2 : Nat) : Int) = 2 from rfl] at e
          rw [e]
          dsimp only
          refine q _ _ (less _).1 (less _).2 ⟨ne, ⟨at_ + 1, cell / m, get_set hf2, by omega, by omega⟩, get_set_ne ne hc2⟩ (x2.trans (Ext.set M2 (by simp)))
        · exact fin _ (less _).1 (less _).2
      · exact fin _ (less _).1 (less _).2
end Lw

set_option Elab.async false
set_option linter.all false
set_option maxRecDepth 100000
set_option maxHeartbeats 4000000
namespace Tr
open PySem PySem.Spec PyProof.Rows L2
/-! ### loops -/
theorem lc_wp {nx : Nat → Mem → Option (Option D)} {vs : List Nat} {gt : GF} {ft : TF} {fe : EF} {j n : Nat} {env : DEnv} (I : Nat → List D → Mem → Prop)
    (step : ∀ (i : Nat) (acc : List D) (M : Mem), i < n → I i acc M → M[j]? = some (.lst acc) → ∃ d, nx i M = some (some d) ∧ wpR (gt d (wipeD env vs) M) fun e2 M2 => wpR (ft e2 M2) fun b M3 =>
      if b = true then wpR (fe e2 M3) fun y M4 => M4[j]? = some (.lst acc) ∧ acc.length < lim ∧ I (i + 1) (acc ++ [y]) (M4.set j (.lst (acc ++ [y]))) else M3[j]? = some (.lst acc) ∧ I (i + 1) acc M3)
    (stop : ∀ (acc : List D) (M : Mem), I n acc M → M[j]? = some (.lst acc) → nx n M = some none) :
    ∀ (k i : Nat) (acc : List D) (M : Mem), i + k = n + 1 → 1 ≤ k → I i acc M → M[j]? = some (.lst acc) → wpR (lcD nx vs gt ft fe j k i env M) fun _ M' => ∃ acc', I n acc' M' ∧ M'[j]? = some (.lst acc') := by
  intro k
  induction k with
  | zero => intro i acc M _ h; omega
  | succ k ih =>
    intro i acc M hi _ hI hM
    unfold lcD
    by_cases hin : i < n
    · obtain ⟨d, e, h⟩ := step i acc M hin hI hM
      rw [e]
      dsimp only
      simp only [wpR_bind, wpR_no]
      refine wpR_mono h fun e2 M2 h2 => wpR_mono h2 fun b M3 h3 => ?_
      cases b with
      | false =>
        rw [if_neg (by decide)] at h3
        simp only [Bool.false_eq_true, if_false]
        exact ih (i + 1) acc M3 (by omega) (by omega) h3.2 h3.1
      | true =>
        rw [if_pos rfl] at h3
        simp only [if_true, wpR_bind, wpR_no]
        refine wpR_mono h3 fun y M4 ⟨h4, h5, h6⟩ => ?_
        rw [h4]
        dsimp only
        rw [if_pos h5]
        exact ih (i + 1) _ _ (by omega) (by omega) h6 (get_set h4)
    · obtain rfl : i = n := by omega
      rw [stop acc M hI hM]
      exact ⟨acc, hI, hM⟩
/-- a list comprehension over what is known -/
theorem eLc_wp {fi : IF} {vs : List Nat} {gt : GF} {ft : TF} {fe : EF} {env : DEnv} {M : Mem} {Q : D → Mem → Prop}
    (h : wpR (fi env M) fun it M1 => ∃ I : Nat → List D → Mem → Prop, I 0 [] (M1 ++ [.lst []]) ∧
      (∀ (i : Nat) (acc : List D) (M : Mem), i < it.n → I i acc M → M[M1.length]? = some (.lst acc) → ∃ d, it.nx i M = some (some d) ∧ wpR (gt d (wipeD env vs) M) fun e2 M2 => wpR (ft e2 M2) fun b M3 =>
        if b = true then wpR (fe e2 M3) fun y M4 => M4[M1.length]? = some (.lst acc) ∧ acc.length < lim ∧ I (i + 1) (acc ++ [y]) (M4.set M1.length (.lst (acc ++ [y]))) else M3[M1.length]? = some (.lst acc) ∧ I (i + 1) acc M3) ∧
      (∀ (acc : List D) (M : Mem), I it.n acc M → M[M1.length]? = some (.lst acc) → it.nx it.n M = some none) ∧ ∀ acc M', I it.n acc M' → M'[M1.length]? = some (.lst acc) → Q (.obj M1.length) M') : wpR (eLc fi vs gt ft fe env M) Q := by
  unfold eLc
  rw [wpR_bind]
  refine wpR_mono h fun it M1 ⟨I, h0, step, stop, fin⟩ => ?_
  rw [wpR_bind]
  exact wpR_mono (lc_wp I step stop (it.n + 1) 0 [] _ (by omega) (by omega) h0 get_new) fun _ M' ⟨acc, a, b⟩ => fin acc M' a b
theorem loop_wp {nx : Nat → Mem → Option (Option D)} {body : D → SF} {n : Nat} {S : Fl → DEnv → Mem → Prop} (I : Nat → DEnv → Mem → Prop)
    (step : ∀ (i : Nat) (env : DEnv) (M : Mem), i < n → I i env M → ∃ d, nx i M = some (some d) ∧ wpS (body d env M) fun fl e1 M1 => match fl with
      | .nx => I (i + 1) e1 M1
      | .ct => I (i + 1) e1 M1
      | .bk => S .nx e1 M1
      | fl => S fl e1 M1)
    (stop : ∀ (env : DEnv) (M : Mem), I n env M → nx n M = some none ∧ S .nx env M) :
    ∀ (k i : Nat) (env : DEnv) (M : Mem), i + k = n + 1 → 1 ≤ k → I i env M → wpS (loopD nx body k i env M) S := by
  intro k
  induction k with
  | zero => intro i env M _ h; omega
  | succ k ih =>
    intro i env M hi _ hI
    unfold loopD
    by_cases hin : i < n
    · obtain ⟨d, e, h⟩ := step i env M hin hI
      rw [e]
      dsimp only
      cases hb : body d env M with
      | bad => rw [hb] at h; exact h
      | exc x M1 => rw [hb] at h; exact h
      | ok p M1 =>
        rw [hb] at h
        obtain ⟨fl, e1⟩ := p
        cases fl with
        | nx => exact ih (i + 1) e1 M1 (by omega) (by omega) h
        | ct => exact ih (i + 1) e1 M1 (by omega) (by omega) h
        | bk => exact h
        | rt d => exact h
        | ex x => exact h
    · obtain rfl : i = n := by omega
      obtain ⟨e, h⟩ := stop env M hI
      rw [e]
      exact h
theorem for_wp {fi : IF} {ft : GF} {fb : SF} {env : DEnv} {M : Mem} {S : Fl → DEnv → Mem → Prop}
    (h : wpR (fi env M) fun it M1 => ∃ I : Nat → DEnv → Mem → Prop, I 0 env M1 ∧
      (∀ (i : Nat) (env : DEnv) (M : Mem), i < it.n → I i env M → ∃ d, it.nx i M = some (some d) ∧ wpR (ft d env M) fun e2 M2 => wpS (fb e2 M2) fun fl e1 M1 => match fl with
        | .nx => I (i + 1) e1 M1
        | .ct => I (i + 1) e1 M1
        | .bk => S .nx e1 M1
        | fl => S fl e1 M1) ∧ ∀ (env : DEnv) (M : Mem), I it.n env M → it.nx it.n M = some none ∧ S .nx env M) : wpS (sFor fi ft fb env M) S := by
  unfold sFor
  rw [wpS_st]
  refine wpR_mono h fun it M1 ⟨I, h0, step, stop⟩ => ?_
  refine loop_wp I (fun i env M hi hI => ?_) stop (it.n + 1) 0 env M1 (by omega) (by omega) h0
  obtain ⟨d, e, h⟩ := step i env M hi hI
  exact ⟨d, e, by rw [wpS_bindR, wpR_no]; exact h⟩
/-! what is walked -/
section
variable {env : DEnv} {M : Mem} {Q : ItD → Mem → Prop} {fa : EF} {fr : AF}
@[simp] theorem wp_iseq : wpR (iSeq fa env M) Q = wpR (fa env M) fun d M1 => match seqD d M1 with
    | some xs => Q (itS d xs.length) M1
    | none => False := by
  simp only [iSeq, wpR_bind]
  congr 1; funext d M1
  cases seqD d M1 <;> rfl
@[simp] theorem wp_irng : wpR (iRng1D fr env M) Q = wpR (fr env M) fun ds M1 => match ds with
    | [.int j] => r62 j = true ∧ Q (itR 0 j.toNat) M1
    | _ => False := by
  simp only [iRng1D, wpR_bind]
  congr 1; funext ds M1
  rcases ds with _ | ⟨d, _ | ⟨d', t⟩⟩
  · rfl
  · cases d with
    | int j => by_cases h : r62 j = true <;> simp [h]
    | _ => rfl
  · cases d <;> rfl
theorem itR_in {lo : Int} {n i : Nat} (h : i < n) : (itR lo n).nx i M = some (some (.int (lo + i))) := by simp [itR, h]
theorem itR_end {lo : Int} {n : Nat} : (itR lo n).nx n M = some none := by simp [itR]
theorem itS_in {d x : D} {n i : Nat} {xs : List D} (h : seqD d M = some xs) (hi : xs[i]? = some x) : (itS d n).nx i M = some (some x) := by simp [itS, h, hi]
theorem itS_end {d : D} {n i : Nat} {xs : List D} (h : seqD d M = some xs) (hi : xs.length ≤ i) : (itS d n).nx i M = some none := by
  simp only [itS, h, List.getElem?_eq_none hi]
end
end Tr
namespace Tr
open PySem PySem.Spec PyProof.Rows L2
@[simp] theorem call1 {F : FF} {a : D} {M : Mem} : callD 1 0 [.p 0] [] F [a] [] M = F [a] M := rfl
@[simp] theorem call2 {F : FF} {a b : D} {M : Mem} : callD 2 0 [.p 0, .p 1] [] F [a, b] [] M = F [a, b] M := rfl
@[simp] theorem call3 {F : FF} {a b c : D} {M : Mem} : callD 3 0 [.p 0, .p 1, .p 2] [] F [a, b, c] [] M = F [a, b, c] M := rfl
@[simp] theorem call4 {F : FF} {a b c d : D} {M : Mem} : callD 4 0 [.p 0, .p 1, .p 2, .p 3] [] F [a, b, c, d] [] M = F [a, b, c, d] M := rfl
theorem pop_obj {l : Nat} {i : Int} {ys : List D} {y : D} {M : Mem} {Q : D → Mem → Prop} (h : M[l]? = some (.lst ys)) (h0 : 0 ≤ i) (hl : ys.length ≤ lim) (hy : ys[i.toNat]? = some y) : wpR (gPopAt (.obj l) [.int i] M) Q = Q y (M.set l (.lst (ys.eraseIdx i.toNat))) := by
  simp [gPopAt, h, h0, hl, hy]
theorem ty_list {l : Nat} {ys : List D} {M : Mem} (h : M[l]? = some (.lst ys)) : tyD "list" (.obj l) M = true := by
  simp [tyD, h]
theorem app_obj {l : Nat} {ys : List D} {y : D} {M : Mem} {Q : D → Mem → Prop} (h : M[l]? = some (.lst ys)) (hl : ys.length < lim) : wpR (gAppend (.obj l) [y] M) Q = Q .non (M.set l (.lst (ys ++ [y]))) := by
  simp [gAppend, h, hl]
theorem erase_map {α β : Type} (g : α → β) : ∀ (l : List α) (i : Nat), (l.map g).eraseIdx i = (l.eraseIdx i).map g
  | [], _ => by simp
  | x :: r, 0 => by simp
  | x :: r, i + 1 => by simp [erase_map g r i]
theorem erase_perm {α : Type} {l : List α} {i : Nat} {y : α} (h : l[i]? = some y) : (y :: l.eraseIdx i).Perm l := by
  induction l generalizing i with
  | nil => simp at h
  | cons x r ih =>
    cases i with
    | zero => simp at h; subst h; exact .refl _
    | succ i => exact (List.Perm.swap x y _).trans ((ih (by simpa using h)).cons x)
end Tr
namespace Tr
open PySem PySem.Spec PyProof.Rows L2
theorem pick_wp {o : Nat} {xs : List D} {M : Mem} {r : Int} {Q : D → Mem → Prop} (h : M[o]? = some (.lst xs)) (h0 : 0 ≤ r) (h1 : r < xs.length) (q : ∀ d ∈ xs, Q d M) : wpR (gIx (.obj o) (.int r) M) Q := by
  obtain ⟨d, e, _, m⟩ := atI_in h0 h1
  rw [ix_obj h, e]
  exact q d m
theorem any_wp {o : Nat} {xs : List D} {M : Mem} {r : Int} {Q : D → Mem → Prop} (h : M[o]? = some (.lst xs)) (h0 : -(xs.length : Int) ≤ r) (h1 : r < xs.length) (q : ∀ d ∈ xs, Q d M) : wpR (gIx (.obj o) (.int r) M) Q := by
  obtain ⟨d, e, m⟩ := atI_any h0 h1
  rw [ix_obj h, e]
  exact q d m
theorem Feed.push {f c : Nat} {cs : List Int} {M : Mem} {n : Nat} (h : Feed f c cs M n) (N : Mem) : Feed f c cs (M ++ N) n := h.ext (Ext.push (fs := []) M N) (by simp) (by simp)
theorem Feed.put {f c o : Nat} {cs : List Int} {M : Mem} {n : Nat} {m : MO} (h : Feed f c cs M n) (h1 : f ≠ o) (h2 : c ≠ o) : Feed f c cs (M.set o m) n := h.ext (Ext.set (fs := [o]) M (by simp)) (by simpa using h1) (by simpa using h2)
theorem Feed.lf {f c : Nat} {cs : List Int} {M : Mem} {n : Nat} (h : Feed f c cs M n) : f < M.length ∧ c < M.length := by
  obtain ⟨a, b, e, _⟩ := h.ex
  exact ⟨(List.getElem?_eq_some_iff.mp e).1, (List.getElem?_eq_some_iff.mp h.cl).1⟩
theorem tup_obj {o : Nat} {xs : List D} {M : Mem} {Q : D → Mem → Prop} (h : M[o]? = some (.lst xs)) : wpR (gTuple [.obj o] M) Q = Q (.tup xs) M := by
  simp [gTuple, tupD, seqD, h]
theorem tupK_obj {o : Nat} {xs : List D} {M : Mem} {Q : D → Mem → Prop} (h : M[o]? = some (.lst xs)) : wpR (gTupleK [.obj o] M) Q = Q (.ktup xs) M := by
  simp [gTupleK, tupD, seqD, h]
theorem r62_small {i : Int} (h0 : -1000000 ≤ i) (h1 : i ≤ 1000000) : r62 i = true := by
  unfold r62
  rw [Bool.and_eq_true, decide_eq_true_eq, decide_eq_true_eq]
  omega
end Tr
namespace Tr
open PySem PySem.Spec PyProof.Rows L2
theorem strsD_map : ∀ ys : List Str, strsD (ys.map D.str) = some ys
  | [] => rfl
  | y :: ys => by simp [strsD, strsD_map ys]
theorem sort_obj {o : Nat} {ys : List Str} {M : Mem} {Q : D → Mem → Prop} (h : M[o]? = some (.lst (ys.map .str))) (hl : ys.length < 64) : wpR (gSorted [.obj o] M) Q = Q (.obj M.length) (M ++ [.lst ((sortS ys).map .str)]) := by
  simp [gSorted, tupD, seqD, h, strsD_map, hl, newL]
theorem sortset_obj {o : Nat} {ys : List Str} {M : Mem} {Q : D → Mem → Prop} (h : M[o]? = some (.lst (ys.map .str))) (hl : ys.length < 64) : wpR (gSortSet [.obj o] M) Q = Q (.obj M.length) (M ++ [.lst ((sortS (dedupS ys)).map .str)]) := by
  simp [gSortSet, tupD, seqD, h, strsD_map, hl, newL]
theorem sortS_len (ys : List Str) : (sortS ys).length = ys.length := (sortS_perm ys).length_eq
theorem sortS_mem {x : Str} (ys : List Str) : x ∈ sortS ys ↔ x ∈ ys := (sortS_perm ys).mem_iff
theorem seq_obj {o : Nat} {xs : List D} {M : Mem} (h : M[o]? = some (.lst xs)) : seqD (.obj o) M = some xs := by simp [seqD, h]
/-- [x for x in a list], nothing but f turned on the way -/
theorem Ext.len {fs : List Nat} {A B : Mem} (x : Ext fs A B) : A.length ≤ B.length := x.1
end Tr
namespace Tr
open PySem PySem.Spec PyProof.Rows L2
/-- a comprehension on whose way nothing but the feed turns -/
theorem lcF {it : ItD} {vs : List Nat} {gt : GF} {ft : TF} {fe : EF} {env : DEnv} {M1 : Mem} {Q : D → Mem → Prop} {f c n K : Nat} {cs : List Int} (g : Nat → D) (J : Nat → List D → Prop) (h : Feed f c cs M1 n) (J0 : J 0 []) (small : it.n ≤ 1000)
    (hit : ∀ M', Ext [f] M1 M' → (∀ i, i < it.n → it.nx i M' = some (some (g i))) ∧ it.nx it.n M' = some none)
    (step : ∀ (i : Nat) (acc : List D) (M' : Mem), i < it.n → J i acc → Feed f c cs M' (n + K * i) → Ext [f] M1 M' → wpR (gt (g i) (wipeD env vs) M') fun e2 M2 => wpR (ft e2 M2) fun b M3 =>
      if b = true then wpR (fe e2 M3) fun y M4 => J (i + 1) (acc ++ [y]) ∧ Feed f c cs M4 (n + K * (i + 1)) ∧ Ext [f] M' M4 else J (i + 1) acc ∧ Feed f c cs M3 (n + K * (i + 1)) ∧ Ext [f] M' M3)
    (q : ∀ (acc : List D) (M' : Mem), J it.n acc → acc.length ≤ it.n → Feed f c cs M' (n + K * it.n) → Ext [f] M1 M' → M'[M1.length]? = some (.lst acc) → Q (.obj M1.length) M') :
    ∃ I : Nat → List D → Mem → Prop, I 0 [] (M1 ++ [.lst []]) ∧
      (∀ (i : Nat) (acc : List D) (M : Mem), i < it.n → I i acc M → M[M1.length]? = some (.lst acc) → ∃ d, it.nx i M = some (some d) ∧ wpR (gt d (wipeD env vs) M) fun e2 M2 => wpR (ft e2 M2) fun b M3 =>
        if b = true then wpR (fe e2 M3) fun y M4 => M4[M1.length]? = some (.lst acc) ∧ acc.length < lim ∧ I (i + 1) (acc ++ [y]) (M4.set M1.length (.lst (acc ++ [y]))) else M3[M1.length]? = some (.lst acc) ∧ I (i + 1) acc M3) ∧
      (∀ (acc : List D) (M : Mem), I it.n acc M → M[M1.length]? = some (.lst acc) → it.nx it.n M = some none) ∧ ∀ acc M', I it.n acc M' → M'[M1.length]? = some (.lst acc) → Q (.obj M1.length) M' := by
  have lf := h.lf
  have out : ∀ M', Ext [f, M1.length] (M1 ++ [.lst []]) M' → Ext [f] M1 M' := fun M' x => ((Ext.push M1 [.lst []]).trans x).fresh (by simp)
  refine ⟨fun i acc M' => J i acc ∧ acc.length ≤ i ∧ Feed f c cs M' (n + K * i) ∧ Ext [f, M1.length] (M1 ++ [.lst []]) M', ⟨J0, Nat.le_refl _, by simpa using h.push _, Ext.refl _ _⟩, ?_, fun acc M' ⟨_, _, _, x⟩ _ => (hit M' (out M' x)).2, fun acc M' ⟨a, l, b, x⟩ e => q acc M' a l b (out M' x) e⟩
  rintro i acc M' hi ⟨j, l, hf, x⟩ e
  refine ⟨_, (hit M' (out M' x)).1 i hi, wpR_mono (step i acc M' hi j hf (out M' x)) fun e2 M2 h2 => wpR_mono h2 fun b M3 h3 => ?_⟩
  cases b with
  | true =>
    rw [if_pos rfl] at h3 ⊢
    refine wpR_mono h3 fun y M4 ⟨j4, f4, x4⟩ => ?_
    have e4 := x4.get (by simp; omega) e
    refine ⟨e4, by unfold lim; omega, j4, by simp; omega, f4.put (by omega) (by omega), (x.trans (x4.weak (by simp))).trans (Ext.set _ (by simp))⟩
  | false =>
    rw [if_neg (by decide)] at h3 ⊢
    obtain ⟨j3, f3, x3⟩ := h3
    exact ⟨x3.get (by simp; omega) e, j3, by omega, f3, x.trans (x3.weak (by simp))⟩
theorem hitS {f o N : Nat} {xs : List D} {M1 : Mem} (h : M1[o]? = some (.lst xs)) (hf : o ≠ f) (hN : N = xs.length) : ∀ M', Ext [f] M1 M' → (∀ i, i < (itS (.obj o) N).n → (itS (.obj o) N).nx i M' = some (some (xs.getD i .non))) ∧ (itS (.obj o) N).nx (itS (.obj o) N).n M' = some none := fun M' x => by
  have e := x.get (by simpa using hf) h
  subst hN
  refine ⟨fun i hi => itS_in (seq_obj e) ?_, itS_end (seq_obj e) (Nat.le_refl _)⟩
  have hi' : i < xs.length := hi
  simp [List.getD, hi']
theorem hitR {f N : Nat} {M1 : Mem} {lo : Int} : ∀ M', Ext [f] M1 M' → (∀ i, i < (itR lo N).n → (itR lo N).nx i M' = some (some (.int (lo + i)))) ∧ (itR lo N).nx (itR lo N).n M' = some none := fun M' x => ⟨fun i hi => itR_in hi, itR_end⟩
theorem getD_mem {xs : List D} {i : Nat} (h : i < xs.length) : xs.getD i .non ∈ xs := by
  simp [List.getD, h]
end Tr
namespace Tr
open PySem PySem.Spec PyProof.Rows L2
theorem lcS_wp {vs : List Nat} {gt : GF} {ft : TF} {fe : EF} {env : DEnv} {M1 : Mem} {Q : D → Mem → Prop} {f c n o ix : Nat} {cs : List Int} {zs : List D} (K : Nat) (J : Nat → List D → Prop) (he : env[ix]? = some (some (.obj o))) (ho : M1[o]? = some (.lst zs)) (hof : o ≠ f) (h : Feed f c cs M1 n) (J0 : J 0 []) (small : zs.length ≤ 1000)
    (step : ∀ (i : Nat) (acc : List D) (M' : Mem), i < zs.length → J i acc → Feed f c cs M' (n + K * i) → Ext [f] M1 M' → wpR (gt (zs.getD i .non) (wipeD env vs) M') fun e2 M2 => wpR (ft e2 M2) fun b M3 =>
      if b = true then wpR (fe e2 M3) fun y M4 => J (i + 1) (acc ++ [y]) ∧ Feed f c cs M4 (n + K * (i + 1)) ∧ Ext [f] M' M4 else J (i + 1) acc ∧ Feed f c cs M3 (n + K * (i + 1)) ∧ Ext [f] M' M3)
    (q : ∀ (acc : List D) (M' : Mem), J zs.length acc → acc.length ≤ zs.length → Feed f c cs M' (n + K * zs.length) → Ext [f] M1 M' → M'[M1.length]? = some (.lst acc) → Q (.obj M1.length) M') : wpR (eLc (iSeq (eVar ix)) vs gt ft fe env M1) Q := by
  with_reducible refine eLc_wp ?_
  rw [wp_iseq, wp_var, he]
  dsimp only
  rw [seq_obj ho]
  exact lcF (K := K) (g := fun i => zs.getD i .non) J h J0 small (hitS ho hof rfl) step q
theorem lcR_wp {vs : List Nat} {gt : GF} {ft : TF} {fe : EF} {fr : AF} {env : DEnv} {M1 : Mem} {Q : D → Mem → Prop} {f c n N : Nat} {cs : List Int} (K : Nat) (J : Nat → List D → Prop) (hfr : ∀ R : List D → Mem → Prop, R [.int (N : Int)] M1 → wpR (fr env M1) R) (h : Feed f c cs M1 n) (J0 : J 0 []) (small : N ≤ 1000)
    (step : ∀ (i : Nat) (acc : List D) (M' : Mem), i < N → J i acc → Feed f c cs M' (n + K * i) → Ext [f] M1 M' → wpR (gt (.int (i : Int)) (wipeD env vs) M') fun e2 M2 => wpR (ft e2 M2) fun b M3 =>
      if b = true then wpR (fe e2 M3) fun y M4 => J (i + 1) (acc ++ [y]) ∧ Feed f c cs M4 (n + K * (i + 1)) ∧ Ext [f] M' M4 else J (i + 1) acc ∧ Feed f c cs M3 (n + K * (i + 1)) ∧ Ext [f] M' M3)
    (q : ∀ (acc : List D) (M' : Mem), J N acc → acc.length ≤ N → Feed f c cs M' (n + K * N) → Ext [f] M1 M' → M'[M1.length]? = some (.lst acc) → Q (.obj M1.length) M') : wpR (eLc (iRng1D fr) vs gt ft fe env M1) Q := by
  with_reducible refine eLc_wp ?_
  rw [wp_irng]
  refine hfr _ ?_
  dsimp only
  refine ⟨r62_small (by omega) (by omega), ?_⟩
  have e : ((N : Int)).toNat = N := by omega
  rw [e]
  refine lcF (K := K) (g := fun i => .int (0 + (i : Int))) J h J0 small hitR ?_ q
  intro i acc M' hi
  rw [Int.zero_add]
  exact step i acc M' hi
end Tr
namespace Tr
theorem lim_0 : ((0 : Nat) ≤ lim) = True := by simp [lim]
theorem lim_1 : ((0 : Nat) + 1 ≤ lim) = True := by simp [lim]
theorem lim_2 : ((0 : Nat) + 1 + 1 ≤ lim) = True := by simp [lim]
theorem lim_3 : ((0 : Nat) + 1 + 1 + 1 ≤ lim) = True := by simp [lim]
theorem lim_4 : ((0 : Nat) + 1 + 1 + 1 + 1 ≤ lim) = True := by simp [lim]
theorem lim_5 : ((0 : Nat) + 1 + 1 + 1 + 1 + 1 ≤ lim) = True := by simp [lim]
theorem lim_n (n : Nat) (h : n ≤ 1000 := by decide) : (n ≤ lim) = True := by simp [lim]; omega
end Tr
namespace Tr
open PySem PySem.Spec PyProof.Rows L2
theorem add_obj {a b : Nat} {xs ys : List D} {M : Mem} {Q : D → Mem → Prop} (h1 : M[a]? = some (.lst xs)) (h2 : M[b]? = some (.lst ys)) (hl : xs.length + ys.length ≤ lim) : wpR (gAdd (.obj a) (.obj b) M) Q = Q (.obj M.length) (M ++ [.lst (xs ++ ys)]) := by
  simp [gAdd, h1, h2, hl]
end Tr
namespace Tr
open PySem PySem.Spec PyProof.Rows L2
theorem hitV {f : Nat} {d : D} {xs : List D} {M1 : Mem} (h : ∀ M', Ext [f] M1 M' → seqD d M' = some xs) : ∀ M', Ext [f] M1 M' → (∀ i, i < (itS d xs.length).n → (itS d xs.length).nx i M' = some (some (xs.getD i .non))) ∧ (itS d xs.length).nx (itS d xs.length).n M' = some none := fun M' x => by
  refine ⟨fun i hi => itS_in (h M' x) ?_, itS_end (h M' x) (Nat.le_refl _)⟩
  have hi' : i < xs.length := hi
  simp [List.getD, hi']
theorem lcV_wp {vs : List Nat} {gt : GF} {ft : TF} {fe : EF} {fa : EF} {env : DEnv} {M1 : Mem} {Q : D → Mem → Prop} {f c n : Nat} {cs : List Int} {zs : List D} {d : D} (K : Nat) (J : Nat → List D → Prop) (he : ∀ R : D → Mem → Prop, R d M1 → wpR (fa env M1) R) (ho : ∀ M', Ext [f] M1 M' → seqD d M' = some zs) (h : Feed f c cs M1 n) (J0 : J 0 []) (small : zs.length ≤ 1000)
    (step : ∀ (i : Nat) (acc : List D) (M' : Mem), i < zs.length → J i acc → Feed f c cs M' (n + K * i) → Ext [f] M1 M' → wpR (gt (zs.getD i .non) (wipeD env vs) M') fun e2 M2 => wpR (ft e2 M2) fun b M3 =>
      if b = true then wpR (fe e2 M3) fun y M4 => J (i + 1) (acc ++ [y]) ∧ Feed f c cs M4 (n + K * (i + 1)) ∧ Ext [f] M' M4 else J (i + 1) acc ∧ Feed f c cs M3 (n + K * (i + 1)) ∧ Ext [f] M' M3)
    (q : ∀ (acc : List D) (M' : Mem), J zs.length acc → acc.length ≤ zs.length → Feed f c cs M' (n + K * zs.length) → Ext [f] M1 M' → M'[M1.length]? = some (.lst acc) → Q (.obj M1.length) M') : wpR (eLc (iSeq fa) vs gt ft fe env M1) Q := by
  with_reducible refine eLc_wp ?_
  rw [wp_iseq]
  refine he _ ?_
  rw [ho M1 (Ext.refl _ _)]
  exact lcF (K := K) (g := fun i => zs.getD i .non) J h J0 small (hitV ho) step q
end Tr
namespace Tr
open PySem PySem.Spec PyProof.Rows L2
theorem lcI_wp {fi : IF} {it : ItD} {vs : List Nat} {gt : GF} {ft : TF} {fe : EF} {env : DEnv} {M M1 : Mem} {Q : D → Mem → Prop} {f c n : Nat} {cs : List Int} (K : Nat) (g : Nat → D) (J : Nat → List D → Prop) (hfi : ∀ R : ItD → Mem → Prop, R it M1 → wpR (fi env M) R) (h : Feed f c cs M1 n) (J0 : J 0 []) (small : it.n ≤ 1000)
    (hit : ∀ M', Ext [f] M1 M' → (∀ i, i < it.n → it.nx i M' = some (some (g i))) ∧ it.nx it.n M' = some none)
    (step : ∀ (i : Nat) (acc : List D) (M' : Mem), i < it.n → J i acc → Feed f c cs M' (n + K * i) → Ext [f] M1 M' → wpR (gt (g i) (wipeD env vs) M') fun e2 M2 => wpR (ft e2 M2) fun b M3 =>
      if b = true then wpR (fe e2 M3) fun y M4 => J (i + 1) (acc ++ [y]) ∧ Feed f c cs M4 (n + K * (i + 1)) ∧ Ext [f] M' M4 else J (i + 1) acc ∧ Feed f c cs M3 (n + K * (i + 1)) ∧ Ext [f] M' M3)
    (q : ∀ (acc : List D) (M' : Mem), J it.n acc → acc.length ≤ it.n → Feed f c cs M' (n + K * it.n) → Ext [f] M1 M' → M'[M1.length]? = some (.lst acc) → Q (.obj M1.length) M') : wpR (eLc fi vs gt ft fe env M) Q := by
  with_reducible refine eLc_wp ?_
  exact hfi _ (lcF (K := K) (g := g) J h J0 small hit step q)
end Tr

set_option Elab.async false
set_option linter.all false
set_option maxRecDepth 100000
set_option maxHeartbeats 4000000
namespace Lw
open PySem PySem.Spec PyProof.Rows L2 Tr
theorem words_wp {f c l k n : Nat} {cs : List Int} {M : Mem} {xs : List Str} {Q : D → Mem → Prop} (h : Feed f c cs M n) (hn : n < 1000000) (hl : M[l]? = some (.lst (xs.map .str))) (h1 : f ≠ l) (h2 : c ≠ l) (hk : k ≤ xs.length) (hx : xs.length ≤ 20)
    (q : ∀ (ys rest : List Str) (M' : Mem), ys.length = k → (ys ++ rest).Perm xs → Feed f c cs M' (n + k) → Ext [f, l] M M' → M'[M.length]? = some (.lst (ys.map .str)) → Q (.obj M.length) M') : wpR (F__law_words [.obj f, .int k, .obj l] M) Q := by
  unfold F__law_words B__law_words
  rw [wp_run]
  simp only [startD, wp_ret, List.map_cons, List.map_nil, List.length_cons, List.length_nil, List.replicate, List.cons_append, List.nil_append]
  with_reducible refine eLc_wp ?_
  have rk : r62 (k : Int) = true := by
    unfold r62
    rw [Bool.and_eq_true, decide_eq_true_eq, decide_eq_true_eq]
    omega
  have lenM := (List.getElem?_eq_some_iff.mp hl).1
  have lenF := (List.getElem?_eq_some_iff.mp h.ex.choose_spec.choose_spec.1).1
  have lenC := (List.getElem?_eq_some_iff.mp h.cl).1
  simp only [wp_irng, wp_acons, wp_anil, wp_var, List.getElem?_cons_zero, List.getElem?_cons_succ]
  refine ⟨rk, fun i acc M' => ∃ ys rest : List Str, acc = ys.map D.str ∧ (ys ++ rest).Perm xs ∧ ys.length = i ∧ M'[l]? = some (.lst (rest.map .str)) ∧ Feed f c cs M' (n + i) ∧ Ext [f, l, M.length] (M ++ [.lst []]) M',
    ⟨[], xs, rfl, .refl _, rfl, get_push hl, (h.ext (Ext.push (fs := []) M [.lst []]) (by simp) (by simp)), Ext.refl _ _⟩, ?_, fun acc M' _ _ => itR_end, ?_⟩
  · rintro i acc M' hi ⟨ys, rest, rfl, pm, hy, hr, hf, hx'⟩ hacc
    have hi' : i < k := by simpa [itR] using hi
    refine ⟨_, itR_in (by simpa using hi'), ?_⟩
    have lr : rest.length = xs.length - i := by
      have := pm.length_eq
      rw [List.length_append] at this
      omega
    simp only [wp_gname, wipeD, wp_tYes, if_true, wp_mt, wp_var, wp_call, wp_acons, wp_cb, wp_anil, List.set_cons_zero, List.set_cons_succ, List.getElem?_cons_zero, List.getElem?_cons_succ, ty_list hr, true_and, len_obj hr, call2, List.length_map]
    refine next_wp hf (by omega) (by omega) (by omega) fun r M2 r0 r1 hf2 x2 => ?_
    have hr2 := x2.get (by simp; omega) hr
    have hrn : r.toNat < rest.length := by omega
    rw [pop_obj (y := .str rest[r.toNat]) hr2 r0 (by rw [List.length_map]; unfold lim; omega) (by simp [hrn])]
    have hacc2 := x2.get (i := M.length) (by simp; omega) hacc
    refine ⟨get_set_ne (by omega) hacc2, by unfold lim; omega, ys ++ [rest[r.toNat]], rest.eraseIdx r.toNat, by simp, ?_, by simp [hy], ?_, ?_, ?_⟩
    · rw [List.append_assoc]
      exact ((erase_perm (List.getElem?_eq_getElem hrn)).append_left ys).trans pm
    · rw [List.getElem?_set_ne (by omega), get_set hr2, erase_map]
    · refine (hf2.ext (Ext.set (fs := [l, M.length]) M2 (i := l) (by simp)) (by simp; omega) (by simp; omega)).ext (Ext.set (fs := [l, M.length]) _ (by simp)) (by simp; omega) (by simp; omega)
    · exact (hx'.trans (x2.weak (by simp))).trans ((Ext.set M2 (by simp)).trans (Ext.set _ (by simp)))
  · rintro acc M' ⟨ys, rest, rfl, pm, hy, hr, hf, hx'⟩ hacc
    have hk' : (itR 0 (k : Int).toNat).n = k := by simp [itR]
    rw [hk'] at hy hf
    exact q ys rest M' hy pm hf ((Ext.push M [.lst []]).trans hx' |>.fresh (by simp)) hacc
end Lw
namespace Lw
open PySem PySem.Spec PyProof.Rows L2 Tr
theorem words_wp2 {f c l k n : Nat} {cs : List Int} {M : Mem} {zs : List D} (xs : List Str) {Q : D → Mem → Prop} (h : Feed f c cs M n) (hn : n < 1000000) (hl : M[l]? = some (.lst zs)) (hz : zs = xs.map .str) (h1 : f ≠ l) (h2 : c ≠ l) (hk : k ≤ xs.length) (hx : xs.length ≤ 20)
    (q : ∀ (ys rest : List Str) (M' : Mem), ys.length = k → (ys ++ rest).Perm xs → Feed f c cs M' (n + k) → Ext [f, l] M M' → M'[M.length]? = some (.lst (ys.map .str)) → Q (.obj M.length) M') : wpR (F__law_words [.obj f, .int k, .obj l] M) Q := by
  rw [hz] at hl
  with_reducible exact words_wp h hn hl h1 h2 hk hx q
end Lw

set_option Elab.async false
set_option linter.all false
set_option maxRecDepth 100000
set_option maxHeartbeats 4000000
namespace Lw
open PySem PySem.Spec PyProof.Rows L2 Tr
theorem prices_wp {f c n : Nat} {cs : List Int} {M : Mem} {Q : D → Mem → Prop} (h : Feed f c cs M n) (hn : n < 1000000)
    (q : ∀ (ps : List D) (M' : Mem), Feed f c cs M' (n + 10) → Ext [f] M M' → Q (.tup ps) M') : wpR (F__law_prices [.obj f] M) Q := by
  unfold F__law_prices B__law_prices
  rw [wp_run]
  simp [startD, lim]
  with_reducible refine next_wp h (by omega) (by omega) (by omega) fun r1 M1 a1 b1 f1 x1 => ?_
  with_reducible refine next_wp f1 (by omega) (by omega) (by omega) fun r2 M2 a2 b2 f2 x2 => ?_
  with_reducible refine next_wp (f2.push _) (by omega) (by omega) (by omega) fun r3 M3 a3 b3 f3 x3 => ?_
  have l2 := f2.lf
  refine pick_wp (x3.get (by simp; omega) get_new) a3 (by simpa using b3) fun d3 _ => ?_
  have l3 := f3.lf
  generalize hL : M3 ++ [MO.lst [D.tup [D.int 0, d3]]] = M4
  have f4 : Feed f c cs M4 (n + 1 + 1 + 1) := by rw [← hL]; exact f3.push _
  have x4 : Ext [f] M M4 := by rw [← hL]; exact (((x1.trans x2).trans (Ext.push _ _)).trans x3).trans (Ext.push _ _)
  have o4 : M4[M3.length]? = some (.lst [D.tup [D.int 0, d3]]) := by rw [← hL]; exact get_new
  clear hL
  have lo : f < M3.length ∧ c < M3.length ∧ M.length ≤ M3.length := by
    refine ⟨l3.1, l3.2, ?_⟩
    have := x1.1; have := x2.1; have := x3.1
    simp at this
    omega
  generalize M3.length = o at o4 lo ⊢
  with_reducible refine for_wp ?_
  simp [lim]
  with_reducible refine next_wp (f4.push _) (by omega) (by omega) (by omega) fun r5 M5 a5 b5 f5 x5 => ?_
  have l4 := f4.lf
  refine pick_wp (x5.get (by simp; omega) get_new) a5 (by simpa using b5) fun d5 hd5 => ?_
  obtain ⟨k, rfl, k0, k1⟩ : ∃ k : Int, d5 = .int k ∧ 0 ≤ k ∧ k ≤ 3 := by
    simp at hd5
    rcases hd5 with rfl | rfl | rfl
    · exact ⟨0, rfl, by omega, by omega⟩
    · exact ⟨1, rfl, by omega, by omega⟩
    · exact ⟨3, rfl, by omega, by omega⟩
  have l5 := f5.lf
  have lm : M.length ≤ M5.length := by
    have := x4.1; have := x5.1
    simp at this
    omega
  obtain ⟨I, hI⟩ : ∃ I : Nat → DEnv → Mem → Prop, ∀ i env M', I i env M' ↔ ∃ (at_ : Int) (w : Option D) (ps : List D), env = [some (.obj f), some (.obj o), some (.int at_), w] ∧ M'[o]? = some (.lst ps) ∧ ps.length = i + 1 ∧ Feed f c cs M' (n + 4 + 2 * i) ∧ Ext [f, o] M4 M' := ⟨_, fun _ _ _ => Iff.rfl⟩
  refine ⟨r62_small (by omega) (by omega), I, (hI _ _ _).mpr ⟨0, none, _, rfl, (x5.get (by simp; omega) (get_push o4)), rfl, f5.mono (by omega), ((Ext.push _ _).trans x5).weak (by simp)⟩, ?_, ?_⟩
  · intro i env M' hi hh
    obtain ⟨at_, w, ps, rfl, ho, hp, hf, hx⟩ := (hI _ _ _).mp hh
    have hi' : i < k.toNat := hi
    refine ⟨_, itR_in hi', ?_⟩
    simp [lim]
    with_reducible refine next_wp hf (by omega) (by omega) (by omega) fun r6 M6 a6 b6 f6 x6 => ?_
    have o6 := x6.get (by simp; omega) ho
    simp [ty_list o6]
    with_reducible refine next_wp f6 (by omega) (by omega) (by omega) fun r7 M7 a7 b7 f7 x7 => ?_
    have o7 := x7.get (by simp; omega) o6
    rw [app_obj o7 (by unfold lim; omega)]
    refine (hI _ _ _).mpr ⟨_, _, _, rfl, get_set o7, by simp [hp], (f7.put (by omega) (by omega)).mono (by omega), ((hx.trans (x6.weak (by simp))).trans (x7.weak (by simp))).trans (Ext.set _ (by simp))⟩
  · intro env M' hh
    obtain ⟨at_, w, ps, rfl, ho, hp, hf, hx⟩ := (hI _ _ _).mp hh
    refine ⟨itR_end, ?_⟩
    simp [tup_obj ho]
    have hn : (itR 0 k.toNat).n = k.toNat := rfl
    rw [hn] at hf
    exact q ps M' (hf.mono (by omega)) (((x4.weak (gs := [f, o]) (by simp)).trans hx).fresh (by simp; omega))
end Lw

set_option Elab.async false
set_option linter.all false
set_option maxRecDepth 100000
set_option maxHeartbeats 4000000
namespace Lw
open PySem PySem.Spec PyProof.Rows L2 Tr
def wItems : List Str := ["a", "ab", "beer", "soup", "soups", "tea", "z"]
def IsRow (r : D) : Prop := ∃ x ps, r = D.tup (.str x :: ps) ∧ x ∈ wItems
theorem house_wp {f c n : Nat} {cs : List Int} {M : Mem} {Q : D → Mem → Prop} (h : Feed f c cs M n) (hn : n < 100000)
    (q : ∀ (rows offs : List D) (a b : Int) (M' : Mem), rows.length ≤ 4 → 1 ≤ rows.length → (∀ r ∈ rows, IsRow r) → Feed f c cs M' (n + 100) → Ext [f] M M' → Q (.tup [.tup rows, .tup offs, .int a, .int b]) M') : wpR (F__law_house [.obj f] M) Q := by
  unfold F__law_house B__law_house
  rw [wp_run]
  simp [startD, lim]
  with_reducible refine next_wp h (by omega) (by omega) (by omega) fun r1 M1 a1 b1 f1 x1 => ?_
  have l1 := f1.lf
  obtain ⟨k, hk⟩ : ∃ k : Nat, 1 + r1 = (k : Int) ∧ 1 ≤ k ∧ k ≤ 4 := ⟨(1 + r1).toNat, by omega, by omega, by omega⟩
  rw [wp_add, hk.1]
  with_reducible refine words_wp2 wItems (f1.push _) (by omega) get_new (by simp [wItems]) (by omega) (by omega) (by simp [wItems]; omega) (by simp [wItems]) fun ys rest M2 hy pm f2 x2 o2 => ?_
  have l2 := f2.lf
  have lm : M.length ≤ M1.length ∧ M1.length + 1 ≤ M2.length := ⟨x1.1, by have := x2.1; simpa using this⟩
  rw [sort_obj o2 (by omega)]
  have x2' : Ext [f] M M2 := (x1.trans ((Ext.push M1 _).trans x2 |>.fresh (gs := [f]) (by simp)))
  have f3 := f2.push [.lst ((sortS ys).map D.str)]
  have o3 : (M2 ++ [MO.lst ((sortS ys).map D.str)])[M2.length]? = some (.lst ((sortS ys).map D.str)) := get_new
  have x3 : Ext [f] M (M2 ++ [.lst ((sortS ys).map D.str)]) := x2'.trans (Ext.push _ _)
  have hz : ((sortS ys).map D.str).length = k := by rw [List.length_map, sortS_len, hy]
  have hmem : ∀ d ∈ (sortS ys).map D.str, ∃ x, d = D.str x ∧ x ∈ wItems := fun d hd => by
    obtain ⟨x, hx, rfl⟩ := List.mem_map.mp hd
    exact ⟨x, rfl, pm.mem_iff.mp (List.mem_append_left _ ((sortS_mem ys).mp hx))⟩
  generalize M2 ++ [.lst ((sortS ys).map D.str)] = M3 at f3 o3 x3 ⊢
  generalize (sortS ys).map D.str = zs at o3 hz hmem
  have lo : M2.length ≠ f ∧ M2.length ≠ c := by omega
  have lO : M2.length < M3.length := (List.getElem?_eq_some_iff.mp o3).1
  have lmo : M.length ≤ M2.length := by omega
  generalize M2.length = o at o3 lo lO lmo
  with_reducible refine lcS_wp 11 (fun i acc => acc.length = i ∧ ∀ r ∈ acc, IsRow r) rfl o3 lo.1 f3 (by simp) (by omega) ?_ ?_
  · intro i acc M' hi ⟨j1, j2⟩ hf hx
    have hi' : i < zs.length := hi
    obtain ⟨x, e, hxw⟩ := hmem _ (getD_mem hi')
    rw [e]
    simp [wipeD, lim]
    with_reducible refine next_wp hf (by omega) (by omega) (by omega) fun r5 M5 a5 b5 f5 x5 => ?_
    with_reducible refine prices_wp f5 (by omega) fun ps M6 f6 x6 => ?_
    refine ⟨⟨by omega, ?_⟩, f6.mono (by omega), x5.trans x6⟩
    intro r hr
    rcases hr with hr | rfl
    · exact j2 r hr
    · exact ⟨_, _, rfl, hxw⟩
  · rintro rows M4 ⟨hrl, hrows⟩ _ f4 x4 o4
    rw [hz] at f4 hrl
    rw [tup_obj o4]
    with_reducible refine for_wp ?_
    simp [lim]
    with_reducible refine next_wp (f4.push _) (by omega) (by omega) (by omega) fun r5 M5 a5 b5 f5 x5 => ?_
    have l4 := f4.lf
    have o5 := x5.get (i := M4.length) (by simp; omega) get_new
    have i5 := x5.get (i := o) (by simp; omega) (get_push (x4.get (by simp; omega) o3))
    have x5' : Ext [f] M M5 := (x3.trans x4).trans ((Ext.push _ _).trans x5)
    have lq : M.length ≤ M4.length ∧ o < M4.length := by
      have := x3.1; have := x4.1
      omega
    have lq2 : M4.length ≠ f ∧ M4.length ≠ c ∧ M4.length ≠ o := by omega
    generalize M4.length = p at o5 lq lq2 ⊢
    obtain ⟨I, hI⟩ : ∃ I : Nat → DEnv → Mem → Prop, ∀ i env M', I i env M' ↔ ∃ (w1 w2 w3 w4 : Option D) (ps : List D), env = [some (.obj f), some (.obj o), some (.tup rows), some (.obj p), w1, w2, w3, w4] ∧ M'[p]? = some (.lst ps) ∧ ps.length = i ∧ M'[o]? = some (.lst zs) ∧ Feed f c cs M' (n + 61 + 12 * i) ∧ Ext [f, p] M5 M' := ⟨_, fun _ _ _ => Iff.rfl⟩
    refine ⟨r62_small (by omega) (by omega), I, (hI _ _ _).mpr ⟨none, none, none, none, [], rfl, o5, rfl, i5, f5.mono (by omega), Ext.refl _ _⟩, ?_, ?_⟩
    · intro i env M' hi hh
      obtain ⟨w1, w2, w3, w4, ps, rfl, ho, hp, hoo, hf, hx⟩ := (hI _ _ _).mp hh
      have hi' : i < r5.toNat := hi
      refine ⟨_, itR_in hi', ?_⟩
      simp
      with_reducible refine lcS_wp 1 (fun i acc => True) rfl hoo lo.1 hf trivial (by omega) ?_ ?_
      · intro i acc M' hi _ hf hx
        simp [wipeD]
        with_reducible refine next_wp hf (by omega) (by omega) (by omega) fun r6 M6 a6 b6 f6 x6 => ?_
        by_cases h0 : r6 = 0 <;> simp [h0] <;> exact ⟨f6.mono (by omega), x6⟩
      · intro acc M6 _ _ f6 x6 o6
        rw [hz] at f6
        rw [tup_obj o6]
        with_reducible refine next_wp f6 (by omega) (by omega) (by omega) fun r7 M7 a7 b7 f7 x7 => ?_
        with_reducible refine next_wp (f7.push _) (by omega) (by omega) (by omega) fun r8 M8 a8 b8 f8 x8 => ?_
        have l7 := f7.lf
        refine pick_wp (x8.get (by simp; omega) get_new) a8 (by simpa using b8) fun d8 hd8 => ?_
        obtain ⟨s8, rfl⟩ : ∃ s : Int, d8 = .int s := by
          simp at hd8
          rcases hd8 with rfl | rfl
          · exact ⟨0, rfl⟩
          · exact ⟨_, rfl⟩
        have xx : Ext [f] M' M8 := (x6.trans x7).trans ((Ext.push _ _).trans x8)
        have p8 := xx.get (by simp; omega) ho
        simp [ty_list p8]
        with_reducible refine next_wp f8 (by omega) (by omega) (by omega) fun r9 M9 a9 b9 f9 x9 => ?_
        rw [wp_add]
        with_reducible refine next_wp f9 (by omega) (by omega) (by omega) fun r10 M10 a10 b10 f10 x10 => ?_
        with_reducible refine next_wp (f10.push _) (by omega) (by omega) (by omega) fun r11 M11 a11 b11 f11 x11 => ?_
        have l10 := f10.lf
        refine pick_wp (x11.get (by simp; omega) get_new) a11 (by simpa using b11) fun d11 _ => ?_
        have yy : Ext [f] M' M11 := ((xx.trans x9).trans x10).trans ((Ext.push _ _).trans x11)
        have p11 := yy.get (by simp; omega) ho
        rw [app_obj p11 (by unfold lim; omega)]
        refine (hI _ _ _).mpr ⟨_, _, _, _, _, rfl, get_set p11, by simp [hp], get_set_ne (by omega) (yy.get (by simp; omega) hoo), (f11.put (by omega) (by omega)).mono (by omega), (hx.trans (yy.weak (by simp))).trans (Ext.set _ (by simp))⟩
    · intro env M' hh
      obtain ⟨w1, w2, w3, w4, ps, rfl, ho, hp, hoo, hf, hx⟩ := (hI _ _ _).mp hh
      refine ⟨itR_end, ?_⟩
      have hN : (itR 0 r5.toNat).n = r5.toNat := rfl
      rw [hN] at hf
      simp [tup_obj ho]
      with_reducible refine next_wp hf (by omega) (by omega) (by omega) fun r12 M12 a12 b12 f12 x12 => ?_
      with_reducible refine next_wp f12 (by omega) (by omega) (by omega) fun r13 M13 a13 b13 f13 x13 => ?_
      simp
      refine q rows ps r12 (1 + r13) M13 (by omega) (by omega) hrows (f13.mono (by omega)) ?_
      exact ((((x5'.weak (gs := [f, p]) (by simp)).trans hx).fresh (by simp; omega)).trans x12).trans x13
end Lw

set_option Elab.async false
set_option linter.all false
set_option maxRecDepth 100000
set_option maxHeartbeats 4000000
namespace Lw
open PySem PySem.Spec PyProof.Rows L2 Tr
def wSeats : List Str := ["a", "ann", "anna", "b", "bo", "bob", "l"]
def wTables : List Str := ["l", "left", "r", "ann"]
theorem guests_wp {f c n : Nat} {cs : List Int} {M : Mem} {Q : D → Mem → Prop} (h : Feed f c cs M n) (hn : n < 100000)
    (q : ∀ (s t : Nat) (seats tables : List Str) (M' : Mem), 2 ≤ seats.length → seats.length ≤ 4 → 2 ≤ tables.length → tables.length ≤ 3 → (∀ x ∈ seats, x ∈ wSeats) → (∀ x ∈ tables, x ∈ wTables) → M.length ≤ s → M.length ≤ t → s ≠ t →
      M'[s]? = some (.lst (seats.map .str)) → M'[t]? = some (.lst (tables.map .str)) → Feed f c cs M' (n + 20) → Ext [f] M M' → Q (.tup [.obj s, .obj t]) M') : wpR (F__law_guests [.obj f] M) Q := by
  unfold F__law_guests B__law_guests
  rw [wp_run]
  simp [startD, lim]
  with_reducible refine next_wp h (by omega) (by omega) (by omega) fun r1 M1 a1 b1 f1 x1 => ?_
  have l1 := f1.lf
  obtain ⟨k, hk⟩ : ∃ k : Nat, 2 + r1 = (k : Int) ∧ 2 ≤ k ∧ k ≤ 4 := ⟨(2 + r1).toNat, by omega, by omega, by omega⟩
  rw [wp_add, hk.1]
  with_reducible refine words_wp2 wSeats (f1.push _) (by omega) get_new (by simp [wSeats]) (by omega) (by omega) (by simp [wSeats]; omega) (by simp [wSeats]) fun ys rest M2 hy pm f2 x2 o2 => ?_
  have l2 := f2.lf
  have lm : M.length ≤ M1.length ∧ M1.length + 1 ≤ M2.length := ⟨x1.1, by have := x2.1; simpa using this⟩
  rw [sort_obj o2 (by omega)]
  with_reducible refine next_wp (f2.push _) (by omega) (by omega) (by omega) fun r3 M3 a3 b3 f3 x3 => ?_
  have l3 := f3.lf
  have s3 := x3.get (by simp; omega) (get_new (M := M2) (m := .lst ((sortS ys).map D.str)))
  have lm3 : M2.length + 1 ≤ M3.length := by have := x3.1; simpa using this
  obtain ⟨k2, hk2⟩ : ∃ k : Nat, 2 + r3 = (k : Int) ∧ 2 ≤ k ∧ k ≤ 3 := ⟨(2 + r3).toNat, by omega, by omega, by omega⟩
  rw [wp_add, hk2.1]
  with_reducible refine words_wp2 wTables (f3.push _) (by omega) get_new (by simp [wTables]) (by omega) (by omega) (by simp [wTables]; omega) (by simp [wTables]) fun zs rest2 M4 hz pm2 f4 x4 o4 => ?_
  have s4 := x4.get (by simp; omega) (get_push s3)
  have y4 : Ext [f] M3 M4 := ((Ext.push M3 _).trans x4).fresh (by simp)
  have y2 : Ext [f] M M2 := x1.trans (((Ext.push M1 _).trans x2).fresh (by simp))
  have hlen : (M3 ++ [MO.lst [D.str "l", D.str "left", D.str "r", D.str "ann"]]).length = M3.length + 1 := by simp
  refine q _ _ (sortS ys) zs M4 (by rw [sortS_len]; omega) (by rw [sortS_len]; omega) (by omega) (by omega) (fun x hx => pm.mem_iff.mp (List.mem_append_left _ ((sortS_mem ys).mp hx))) (fun x hx => pm2.mem_iff.mp (List.mem_append_left _ hx)) (by omega) ?_ ?_ s4 o4 (f4.mono (by omega)) ((y2.trans ((Ext.push M2 _).trans x3)).trans y4)
  · rw [hlen]; omega
  · rw [hlen]; omega
theorem dish_wp {f c n o : Nat} {cs : List Int} {M : Mem} {Q : D → Mem → Prop} {items : List Str} {asked : Nat} (h : Feed f c cs M n) (hn : n < 100000) (ho : M[o]? = some (.lst (items.map .str))) (hof : o ≠ f) (hi : 1 ≤ items.length) (hi2 : items.length ≤ 4) (ha : asked ≤ 1000)
    (q : ∀ (d : D) (M' : Mem), ((∃ w i, d = .tup [.str w, .int i] ∧ w ∈ (["serve", "back", "strike"] : List Str) ∧ 0 ≤ i ∧ i ≤ asked) ∨ ∃ i x, d = .tup [.str "change", .int i, .str x] ∧ x ∈ items ∧ 0 ≤ i ∧ i ≤ asked) → Feed f c cs M' (n + 3) → Ext [f] M M' → Q d M') : wpR (F__law_dish_deed [.obj f, .obj o, .int asked] M) Q := by
  unfold F__law_dish_deed B__law_dish_deed
  rw [wp_run]
  simp [startD, lim]
  with_reducible refine next_wp h (by omega) (by omega) (by omega) fun r1 M1 a1 b1 f1 x1 => ?_
  with_reducible refine next_wp (f1.push _) (by omega) (by omega) (by omega) fun r2 M2 a2 b2 f2 x2 => ?_
  have l1 := f1.lf
  refine pick_wp (x2.get (by simp; omega) get_new) a2 (by simpa using b2) fun d2 hd2 => ?_
  have x02 : Ext [f] M M2 := x1.trans ((Ext.push _ _).trans x2)
  have fin : ∀ w : Str, w ∈ (["serve", "back", "strike"] : List Str) → Q (.tup [.str w, .int r1]) M2 := fun w hw => q _ _ (.inl ⟨w, r1, rfl, hw, by omega, by omega⟩) (f2.mono (by omega)) x02
  have o2 := x02.get (by simpa using hof) ho
  simp at hd2
  rcases hd2 with rfl | rfl | rfl | rfl
  · have e : (decide ((Str.ofString "serve") = Str.ofString "change")) = false := by decide +kernel
    simp only [wp_eqS, e]
    exact fin _ (by simp)
  · have e : (decide ((Str.ofString "back") = Str.ofString "change")) = false := by decide +kernel
    simp only [wp_eqS, e]
    exact fin _ (by simp)
  · have e : (decide ((Str.ofString "strike") = Str.ofString "change")) = false := by decide +kernel
    simp only [wp_eqS, e]
    exact fin _ (by simp)
  · have e : (decide ((Str.ofString "change") = Str.ofString "change")) = true := by decide +kernel
    simp [e, len_obj o2, lim]
    with_reducible refine next_wp f2 (by omega) (by omega) (by omega) fun r3 M3 a3 b3 f3 x3 => ?_
    refine pick_wp (x3.get (by simpa using hof) o2) a3 (by simpa using b3) fun d3 hd3 => ?_
    obtain ⟨x, hx, rfl⟩ := List.mem_map.mp hd3
    exact q _ _ (.inr ⟨r1, x, rfl, hx, by omega, by omega⟩) (f3.mono (by omega)) (x02.trans x3)
end Lw

set_option Elab.async false
set_option linter.all false
set_option maxRecDepth 100000
set_option maxHeartbeats 4000000
namespace Lw
open PySem PySem.Spec PyProof.Rows L2 Tr
inductive Dd where
  | dish (w : Str) (i : Int) | change (i : Int) (x : Str) | ask (i : Int) (x : Str) (k : Int) (ss : List Str) | stove (w t : Str) (k : Int) | even (ss : List Str)
  | pair (w a b : Str) | go (a : Str) | pay (a : Str) (i : Int) | take (a b : Str) (i : Int)
def Dd.toD : Dd → D
  | .dish w i => .tup [.str w, .int i]
  | .change i x => .tup [.str "change", .int i, .str x]
  | .ask i x k ss => .tup [.str "ask", .int i, .str x, .int k, .tup (ss.map .str)]
  | .stove w t k => .tup [.str w, .str t, .int k]
  | .even ss => .tup [.str "even", .tup (ss.map .str)]
  | .pair w a b => .tup [.str w, .str a, .str b]
  | .go a => .tup [.str "go", .str a]
  | .pay a i => .tup [.str "pay", .str a, .int i]
  | .take a b i => .tup [.str "take", .str a, .str b, .int i]
def In (i : Int) : Prop := 0 ≤ i ∧ i ≤ 10000
def Dd.Good (E : List Str) : Dd → Prop
  | .dish w i => (w = "serve" ∨ w = "back" ∨ w = "strike") ∧ In i
  | .change i x => In i ∧ x ∈ wItems
  | .ask i x k ss => In i ∧ x ∈ wItems ∧ In k ∧ ss.length ≤ 4 ∧ ∀ s ∈ ss, s ∈ E
  | .stove w t k => (w = "fire" ∨ w = "rush") ∧ t ∈ E ∧ In k
  | .even ss => ss.length ≤ 4 ∧ ∀ s ∈ ss, s ∈ E
  | .pair w a b => (w = "sit" ∨ w = "move" ∨ w = "join") ∧ a ∈ E ∧ b ∈ E
  | .go a => a ∈ E
  | .pay a i => a ∈ E ∧ In i
  | .take a b i => a ∈ E ∧ b ∈ E ∧ In i
theorem deed_wp {f c n o s t : Nat} {cs : List Int} {M : Mem} {Q : D → Mem → Prop} {items seats tables E : List Str} {asked : Nat} (h : Feed f c cs M n) (hn : n < 90000) (ho : M[o]? = some (.lst (items.map .str))) (hof : o ≠ f) (hi : 1 ≤ items.length) (hi2 : items.length ≤ 4) (hiw : ∀ x ∈ items, x ∈ wItems)
    (hs : M[s]? = some (.lst (seats.map .str))) (hsf : s ≠ f) (hs1 : 2 ≤ seats.length) (hs2 : seats.length ≤ 4) (hse : ∀ x ∈ seats, x ∈ E) (ht : M[t]? = some (.lst (tables.map .str))) (htf : t ≠ f) (ht1 : 2 ≤ tables.length) (ht2 : tables.length ≤ 3) (hte : ∀ x ∈ tables, x ∈ E) (ha : asked ≤ 1000)
    (q : ∀ (d : Dd) (M' : Mem), d.Good E → Feed f c cs M' (n + 25) → Ext [f] M M' → Q d.toD M') : wpR (F__law_deed [.obj f, .obj o, .tup [.obj s, .obj t], .int asked] M) Q := by
  unfold F__law_deed B__law_deed
  rw [wp_run]
  simp only [wp_seq, wp_pass, wp_never, wp_expr, wp_ret, wp_retN, wp_ifS, wp_set, wp_asg, wp_par, wp_par3, wp_var, wp_K, wp_anil, wp_acons, wp_bin, wp_tup, wp_tupK, wp_lst, wp_call, wp_cb, wp_ifE, wp_tOf, wp_tAnd, wp_tOr, wp_tNot, wp_tYes, wp_and, wp_sl, wp_oN, wp_oS, wp_mt, wp_kget, wp_gname, wp_gtup, wp_gnil, wp_gcons, wp_gsub, wpR_ok, wpR_bad, wpR_bind, wpR_no, wpS_ok_nx, wpS_ok_rt, wpS_bad, wp_add, wp_sub, wp_mul, wp_mod, wp_fdiv, wp_pow, wp_lt, wp_le, wp_gt, wp_ge, wp_eqI, wp_neI, wp_eqS, wp_neS, Tr.ix_tup, len_tup, call1, call2, call3, call4, wipeD, startD, tupD, List.map_cons, List.map_nil, List.length_cons, List.length_nil, List.replicate, List.cons_append, List.nil_append, List.getElem?_cons_zero, List.getElem?_cons_succ, List.set_cons_zero, List.set_cons_succ, atI_0, atI_1, atI_2, atI_3, atI_4, atI_5, if_true, Bool.false_eq_true, if_false, lim_0, lim_1, lim_2, lim_3, lim_4, lim_5, true_and, Nat.sub_zero, len_obj hs, List.length_map]
  with_reducible refine next_wp h (by omega) (by omega) (by omega) fun r1 M1 a1 b1 f1 x1 => ?_
  have t1 := x1.get (by simpa using htf) ht
  rw [len_obj t1, List.length_map]
  with_reducible refine next_wp f1 (by omega) (by omega) (by omega) fun r2 M2 a2 b2 f2 x2 => ?_
  have x02 := x1.trans x2
  have s2 := x02.get (by simpa using hsf) hs
  have t2 := x02.get (by simpa using htf) ht
  refine pick_wp s2 a1 (by simpa using b1) fun d1 hd1 => ?_
  refine any_wp s2 (by simp; omega) (by simp; omega) fun d2 hd2 => ?_
  refine pick_wp t2 a2 (by simpa using b2) fun d3 hd3 => ?_
  obtain ⟨seat, hseat, rfl⟩ := List.mem_map.mp hd1
  obtain ⟨other, hother, rfl⟩ := List.mem_map.mp hd2
  obtain ⟨table, htable, rfl⟩ := List.mem_map.mp hd3
  simp only [wp_seq, wp_pass, wp_never, wp_expr, wp_ret, wp_retN, wp_ifS, wp_set, wp_asg, wp_par, wp_par3, wp_var, wp_K, wp_anil, wp_acons, wp_bin, wp_tup, wp_tupK, wp_lst, wp_call, wp_cb, wp_ifE, wp_tOf, wp_tAnd, wp_tOr, wp_tNot, wp_tYes, wp_and, wp_sl, wp_oN, wp_oS, wp_mt, wp_kget, wp_gname, wp_gtup, wp_gnil, wp_gcons, wp_gsub, wpR_ok, wpR_bad, wpR_bind, wpR_no, wpS_ok_nx, wpS_ok_rt, wpS_bad, wp_add, wp_sub, wp_mul, wp_mod, wp_fdiv, wp_pow, wp_lt, wp_le, wp_gt, wp_ge, wp_eqI, wp_neI, wp_eqS, wp_neS, Tr.ix_tup, len_tup, call1, call2, call3, call4, wipeD, startD, tupD, List.map_cons, List.map_nil, List.length_cons, List.length_nil, List.replicate, List.cons_append, List.nil_append, List.getElem?_cons_zero, List.getElem?_cons_succ, List.set_cons_zero, List.set_cons_succ, atI_0, atI_1, atI_2, atI_3, atI_4, atI_5, if_true, Bool.false_eq_true, if_false, lim_0, lim_1, lim_2, lim_3, lim_4, lim_5, true_and, Nat.sub_zero]
  with_reducible refine next_wp f2 (by omega) (by omega) (by omega) fun way M3 a3 b3 f3 x3 => ?_
  have s3 := x3.get (by simpa using hsf) s2
  have x03 := x02.trans x3
  with_reducible refine lcS_wp 1 (fun i acc => ∃ ss : List Str, acc = ss.map D.str ∧ ∀ x ∈ ss, x ∈ E) rfl s3 hsf f3 ⟨[], rfl, by simp⟩ (by rw [List.length_map]; omega) ?_ ?_
  · intro i acc M' hi hJ hf hx
    obtain ⟨ss, rfl, hss⟩ := hJ
    obtain ⟨x, hxm, e⟩ := List.mem_map.mp (getD_mem (xs := seats.map D.str) (i := i) (by simpa using hi))
    rw [← e]
    have hi' : i < seats.length := by simpa using hi
    simp only [wp_gname, wipeD, wp_tOr, wp_tOf, wp_bin, wp_var, wp_call, wp_acons, wp_anil, wp_K, List.set_cons_zero, List.set_cons_succ, List.getElem?_cons_zero, List.getElem?_cons_succ, wp_eqS, call2]
    have keep : (∃ ss' : List Str, ss.map D.str ++ [D.str x] = ss'.map D.str ∧ ∀ y ∈ ss', y ∈ E) := ⟨ss ++ [x], by simp, fun y hy => by
      rcases List.mem_append.mp hy with z | z
      · exact hss y z
      · rw [List.mem_singleton.mp z]; exact hse x hxm⟩
    by_cases hx0 : x = seat
    · rw [decide_eq_true hx0]
      simp only [if_true]
      exact ⟨keep, hf.mono (by omega), Ext.refl _ _⟩
    · rw [decide_eq_false hx0]
      simp only [Bool.false_eq_true, if_false]
      with_reducible refine next_wp hf (by omega) (by omega) (by omega) fun r6 M6 a6 b6 f6 x6 => ?_
      simp only [wp_eqI]
      by_cases h0 : r6 = 0
      · rw [decide_eq_true h0]
        simp only [if_true]
        exact ⟨keep, f6.mono (by omega), x6⟩
      · rw [decide_eq_false h0]
        simp only [Bool.false_eq_true, if_false]
        exact ⟨⟨ss, rfl, hss⟩, f6.mono (by omega), x6⟩
  · rintro acc M4 ⟨ss, rfl, hss⟩ hlen f4 x4 o4
    rw [List.length_map] at f4 hlen
    rw [List.length_map] at hlen
    rw [tup_obj o4]
    have x04 := x03.trans x4
    with_reducible refine next_wp f4 (by omega) (by omega) (by omega) fun r5 M5 a5 b5 f5 x5 => ?_
    with_reducible refine next_wp f5 (by omega) (by omega) (by omega) fun r6 M6 a6 b6 f6 x6 => ?_
    have l4 := f4.lf
    with_reducible refine next_wp (f6.push _) (by omega) (by omega) (by omega) fun r7 M7 a7 b7 f7 x7 => ?_
    have l6 := f6.lf
    refine pick_wp (x7.get (by simp; omega) get_new) a7 (by simpa using b7) fun d7 hd7 => ?_
    obtain ⟨p7, rfl, p70, p71⟩ : ∃ p : Int, d7 = .int p ∧ 0 ≤ p ∧ p < 2000 := by
      simp only [List.mem_cons, List.not_mem_nil, or_false] at hd7
      rcases hd7 with rfl | rfl | rfl
      · exact ⟨0, rfl, by omega, by omega⟩
      · exact ⟨_, rfl, a5, by omega⟩
      · exact ⟨_, rfl, a6, by omega⟩
    have x07 : Ext [f] M M7 := ((x04.trans x5).trans x6).trans ((Ext.push _ _).trans x7)
    have f7' : Feed f c cs M7 (n + 10) := f7.mono (by omega)
    have o7 := x07.get (by simpa using hof) ho
    have s7 := x07.get (by simpa using hsf) hs
    have t7 := x07.get (by simpa using htf) ht
    clear f7 f6 f5 f4 f3 f2 f1 l4 l6
    simp only [wp_seq, wp_pass, wp_never, wp_expr, wp_ret, wp_retN, wp_ifS, wp_set, wp_asg, wp_par, wp_par3, wp_var, wp_K, wp_anil, wp_acons, wp_bin, wp_tup, wp_tupK, wp_lst, wp_call, wp_cb, wp_ifE, wp_tOf, wp_tAnd, wp_tOr, wp_tNot, wp_tYes, wp_and, wp_sl, wp_oN, wp_oS, wp_mt, wp_kget, wp_gname, wp_gtup, wp_gnil, wp_gcons, wp_gsub, wpR_ok, wpR_bad, wpR_bind, wpR_no, wpS_ok_nx, wpS_ok_rt, wpS_bad, wp_add, wp_sub, wp_mul, wp_mod, wp_fdiv, wp_pow, wp_lt, wp_le, wp_gt, wp_ge, wp_eqI, wp_neI, wp_eqS, wp_neS, Tr.ix_tup, len_tup, call1, call2, call3, call4, wipeD, startD, tupD, List.map_cons, List.map_nil, List.length_cons, List.length_nil, List.replicate, List.cons_append, List.nil_append, List.getElem?_cons_zero, List.getElem?_cons_succ, List.set_cons_zero, List.set_cons_succ, atI_0, atI_1, atI_2, atI_3, atI_4, atI_5, if_true, Bool.false_eq_true, if_false, lim_0, lim_1, lim_2, lim_3, lim_4, lim_5, true_and, Nat.sub_zero, len_obj o7, List.length_map]
    have pence : In (1 + p7) := ⟨by omega, by omega⟩
    have seatE := hse seat hseat
    have otherE := hse other hother
    have tableE := hte table htable
    have rest : wpR (F__law_dish_deed [D.obj f, D.obj o, D.int asked] M7) (fun d M1 => Q d M1) := by
      with_reducible refine dish_wp f7' (by omega) o7 hof hi hi2 ha fun d M8 hd f8 x8 => ?_
      rcases hd with ⟨w, i, rfl, hw, i0, i1⟩ | ⟨i, x, rfl, hx, i0, i1⟩
      · exact q (.dish w i) M8 ⟨by simpa using hw, i0, by omega⟩ (f8.mono (by omega)) (x07.trans x8)
      · exact q (.change i x) M8 ⟨⟨i0, by omega⟩, hiw x hx⟩ (f8.mono (by omega)) (x07.trans x8)
    have tail : ∀ (dd : Int) (M8 : Mem), In dd → Feed f c cs M8 (n + 11) → Ext [f] M M8 → wpR (F__law_next [D.obj f, D.int items.length] M8) fun y M2 => wpR (gIx (D.obj o) y M2) fun x M1 =>
        (0 : Int) < 3 ∧ Q (D.tup [D.str "ask", D.int dd, x, D.int (way % 3), D.tup (ss.map D.str)]) M1 := fun dd M8 hdd f8 x8 => by
      with_reducible refine next_wp f8 (by omega) (by omega) (by omega) fun r9 M9 a9 b9 f9 x9 => ?_
      refine pick_wp ((x8.trans x9).get (by simpa using hof) ho) a9 (by simpa using b9) fun d9 hd9 => ?_
      obtain ⟨x, hx, rfl⟩ := List.mem_map.mp hd9
      exact ⟨by omega, q (.ask dd x (way % 3) ss) M9 ⟨hdd, hiw x hx, ⟨by omega, by omega⟩, by omega, hss⟩ (f9.mono (by omega)) (x8.trans x9)⟩
    by_cases w6 : way < 6
    · simp only [wp_seq, wp_pass, wp_never, wp_expr, wp_ret, wp_retN, wp_ifS, wp_set, wp_asg, wp_par, wp_par3, wp_var, wp_K, wp_anil, wp_acons, wp_bin, wp_tup, wp_tupK, wp_lst, wp_call, wp_cb, wp_ifE, wp_tOf, wp_tAnd, wp_tOr, wp_tNot, wp_tYes, wp_and, wp_sl, wp_oN, wp_oS, wp_mt, wp_kget, wp_gname, wp_gtup, wp_gnil, wp_gcons, wp_gsub, wpR_ok, wpR_bad, wpR_bind, wpR_no, wpS_ok_nx, wpS_ok_rt, wpS_bad, wp_add, wp_sub, wp_mul, wp_mod, wp_fdiv, wp_pow, wp_lt, wp_le, wp_gt, wp_ge, wp_eqI, wp_neI, wp_eqS, wp_neS, Tr.ix_tup, len_tup, call1, call2, call3, call4, wipeD, startD, tupD, List.map_cons, List.map_nil, List.length_cons, List.length_nil, List.replicate, List.cons_append, List.nil_append, List.getElem?_cons_zero, List.getElem?_cons_succ, List.set_cons_zero, List.set_cons_succ, atI_0, atI_1, atI_2, atI_3, atI_4, atI_5, if_true, Bool.false_eq_true, if_false, lim_0, lim_1, lim_2, lim_3, lim_4, lim_5, true_and, Nat.sub_zero, w6, decide_true]
      by_cases w12 : (asked : Int) < 12
      · simp only [wp_seq, wp_pass, wp_never, wp_expr, wp_ret, wp_retN, wp_ifS, wp_set, wp_asg, wp_par, wp_par3, wp_var, wp_K, wp_anil, wp_acons, wp_bin, wp_tup, wp_tupK, wp_lst, wp_call, wp_cb, wp_ifE, wp_tOf, wp_tAnd, wp_tOr, wp_tNot, wp_tYes, wp_and, wp_sl, wp_oN, wp_oS, wp_mt, wp_kget, wp_gname, wp_gtup, wp_gnil, wp_gcons, wp_gsub, wpR_ok, wpR_bad, wpR_bind, wpR_no, wpS_ok_nx, wpS_ok_rt, wpS_bad, wp_add, wp_sub, wp_mul, wp_mod, wp_fdiv, wp_pow, wp_lt, wp_le, wp_gt, wp_ge, wp_eqI, wp_neI, wp_eqS, wp_neS, Tr.ix_tup, len_tup, call1, call2, call3, call4, wipeD, startD, tupD, List.map_cons, List.map_nil, List.length_cons, List.length_nil, List.replicate, List.cons_append, List.nil_append, List.getElem?_cons_zero, List.getElem?_cons_succ, List.set_cons_zero, List.set_cons_succ, atI_0, atI_1, atI_2, atI_3, atI_4, atI_5, if_true, Bool.false_eq_true, if_false, lim_0, lim_1, lim_2, lim_3, lim_4, lim_5, true_and, Nat.sub_zero, w12, decide_true]
        by_cases w0 : (0 : Int) < asked
        · have hin : ∀ b : Bool, In ((asked : Int) - (if b = true then 1 else 0)) := fun b => by
            cases b
            · exact ⟨by simp, by simp; omega⟩
            · exact ⟨by simp; omega, by simp; omega⟩
          simp only [w0, decide_true]
          with_reducible refine next_wp f7' (by omega) (by omega) (by omega) fun r8 M8 a8 b8 f8 x8 => ?_
          have o8 := x8.get (by simpa using hof) o7
          have e : ∀ b : Bool, wpR (gInt1 [.bl b] M8) = fun (S : D → Mem → Prop) => S (.int (if b then 1 else 0)) M8 := fun b => rfl
          simp only [wp_seq, wp_pass, wp_never, wp_expr, wp_ret, wp_retN, wp_ifS, wp_set, wp_asg, wp_par, wp_par3, wp_var, wp_K, wp_anil, wp_acons, wp_bin, wp_tup, wp_tupK, wp_lst, wp_call, wp_cb, wp_ifE, wp_tOf, wp_tAnd, wp_tOr, wp_tNot, wp_tYes, wp_and, wp_sl, wp_oN, wp_oS, wp_mt, wp_kget, wp_gname, wp_gtup, wp_gnil, wp_gcons, wp_gsub, wpR_ok, wpR_bad, wpR_bind, wpR_no, wpS_ok_nx, wpS_ok_rt, wpS_bad, wp_add, wp_sub, wp_mul, wp_mod, wp_fdiv, wp_pow, wp_lt, wp_le, wp_gt, wp_ge, wp_eqI, wp_neI, wp_eqS, wp_neS, Tr.ix_tup, len_tup, call1, call2, call3, call4, wipeD, startD, tupD, List.map_cons, List.map_nil, List.length_cons, List.length_nil, List.replicate, List.cons_append, List.nil_append, List.getElem?_cons_zero, List.getElem?_cons_succ, List.set_cons_zero, List.set_cons_succ, atI_0, atI_1, atI_2, atI_3, atI_4, atI_5, if_true, Bool.false_eq_true, if_false, lim_0, lim_1, lim_2, lim_3, lim_4, lim_5, true_and, Nat.sub_zero, e, len_obj o8, List.length_map]
          refine tail _ M8 (hin (decide (r8 = 0))) (f8.mono (by omega)) (x07.trans x8)
        · simp only [w0, decide_false]
          have e : wpR (gInt1 [.bl false] M7) = fun (S : D → Mem → Prop) => S (.int 0) M7 := rfl
          simp only [wp_seq, wp_pass, wp_never, wp_expr, wp_ret, wp_retN, wp_ifS, wp_set, wp_asg, wp_par, wp_par3, wp_var, wp_K, wp_anil, wp_acons, wp_bin, wp_tup, wp_tupK, wp_lst, wp_call, wp_cb, wp_ifE, wp_tOf, wp_tAnd, wp_tOr, wp_tNot, wp_tYes, wp_and, wp_sl, wp_oN, wp_oS, wp_mt, wp_kget, wp_gname, wp_gtup, wp_gnil, wp_gcons, wp_gsub, wpR_ok, wpR_bad, wpR_bind, wpR_no, wpS_ok_nx, wpS_ok_rt, wpS_bad, wp_add, wp_sub, wp_mul, wp_mod, wp_fdiv, wp_pow, wp_lt, wp_le, wp_gt, wp_ge, wp_eqI, wp_neI, wp_eqS, wp_neS, Tr.ix_tup, len_tup, call1, call2, call3, call4, wipeD, startD, tupD, List.map_cons, List.map_nil, List.length_cons, List.length_nil, List.replicate, List.cons_append, List.nil_append, List.getElem?_cons_zero, List.getElem?_cons_succ, List.set_cons_zero, List.set_cons_succ, atI_0, atI_1, atI_2, atI_3, atI_4, atI_5, if_true, Bool.false_eq_true, if_false, lim_0, lim_1, lim_2, lim_3, lim_4, lim_5, true_and, Nat.sub_zero, e, len_obj o7, List.length_map]
          refine tail ((asked : Int) - 0) M7 ⟨by omega, by omega⟩ (f7'.mono (by omega)) x07
      · simp only [wp_seq, wp_pass, wp_never, wp_expr, wp_ret, wp_retN, wp_ifS, wp_set, wp_asg, wp_par, wp_par3, wp_var, wp_K, wp_anil, wp_acons, wp_bin, wp_tup, wp_tupK, wp_lst, wp_call, wp_cb, wp_ifE, wp_tOf, wp_tAnd, wp_tOr, wp_tNot, wp_tYes, wp_and, wp_sl, wp_oN, wp_oS, wp_mt, wp_kget, wp_gname, wp_gtup, wp_gnil, wp_gcons, wp_gsub, wpR_ok, wpR_bad, wpR_bind, wpR_no, wpS_ok_nx, wpS_ok_rt, wpS_bad, wp_add, wp_sub, wp_mul, wp_mod, wp_fdiv, wp_pow, wp_lt, wp_le, wp_gt, wp_ge, wp_eqI, wp_neI, wp_eqS, wp_neS, Tr.ix_tup, len_tup, call1, call2, call3, call4, wipeD, startD, tupD, List.map_cons, List.map_nil, List.length_cons, List.length_nil, List.replicate, List.cons_append, List.nil_append, List.getElem?_cons_zero, List.getElem?_cons_succ, List.set_cons_zero, List.set_cons_succ, atI_0, atI_1, atI_2, atI_3, atI_4, atI_5, if_true, Bool.false_eq_true, if_false, lim_0, lim_1, lim_2, lim_3, lim_4, lim_5, true_and, Nat.sub_zero, w12, decide_false]
        by_cases w10 : way < 10
        · simp only [wp_seq, wp_pass, wp_never, wp_expr, wp_ret, wp_retN, wp_ifS, wp_set, wp_asg, wp_par, wp_par3, wp_var, wp_K, wp_anil, wp_acons, wp_bin, wp_tup, wp_tupK, wp_lst, wp_call, wp_cb, wp_ifE, wp_tOf, wp_tAnd, wp_tOr, wp_tNot, wp_tYes, wp_and, wp_sl, wp_oN, wp_oS, wp_mt, wp_kget, wp_gname, wp_gtup, wp_gnil, wp_gcons, wp_gsub, wpR_ok, wpR_bad, wpR_bind, wpR_no, wpS_ok_nx, wpS_ok_rt, wpS_bad, wp_add, wp_sub, wp_mul, wp_mod, wp_fdiv, wp_pow, wp_lt, wp_le, wp_gt, wp_ge, wp_eqI, wp_neI, wp_eqS, wp_neS, Tr.ix_tup, len_tup, call1, call2, call3, call4, wipeD, startD, tupD, List.map_cons, List.map_nil, List.length_cons, List.length_nil, List.replicate, List.cons_append, List.nil_append, List.getElem?_cons_zero, List.getElem?_cons_succ, List.set_cons_zero, List.set_cons_succ, atI_0, atI_1, atI_2, atI_3, atI_4, atI_5, if_true, Bool.false_eq_true, if_false, lim_0, lim_1, lim_2, lim_3, lim_4, lim_5, true_and, Nat.sub_zero, w10, decide_true]
          exact rest
        · omega
    · simp only [wp_seq, wp_pass, wp_never, wp_expr, wp_ret, wp_retN, wp_ifS, wp_set, wp_asg, wp_par, wp_par3, wp_var, wp_K, wp_anil, wp_acons, wp_bin, wp_tup, wp_tupK, wp_lst, wp_call, wp_cb, wp_ifE, wp_tOf, wp_tAnd, wp_tOr, wp_tNot, wp_tYes, wp_and, wp_sl, wp_oN, wp_oS, wp_mt, wp_kget, wp_gname, wp_gtup, wp_gnil, wp_gcons, wp_gsub, wpR_ok, wpR_bad, wpR_bind, wpR_no, wpS_ok_nx, wpS_ok_rt, wpS_bad, wp_add, wp_sub, wp_mul, wp_mod, wp_fdiv, wp_pow, wp_lt, wp_le, wp_gt, wp_ge, wp_eqI, wp_neI, wp_eqS, wp_neS, Tr.ix_tup, len_tup, call1, call2, call3, call4, wipeD, startD, tupD, List.map_cons, List.map_nil, List.length_cons, List.length_nil, List.replicate, List.cons_append, List.nil_append, List.getElem?_cons_zero, List.getElem?_cons_succ, List.set_cons_zero, List.set_cons_succ, atI_0, atI_1, atI_2, atI_3, atI_4, atI_5, if_true, Bool.false_eq_true, if_false, lim_0, lim_1, lim_2, lim_3, lim_4, lim_5, true_and, Nat.sub_zero, w6, decide_false]
      by_cases w10 : way < 10
      · simp only [wp_seq, wp_pass, wp_never, wp_expr, wp_ret, wp_retN, wp_ifS, wp_set, wp_asg, wp_par, wp_par3, wp_var, wp_K, wp_anil, wp_acons, wp_bin, wp_tup, wp_tupK, wp_lst, wp_call, wp_cb, wp_ifE, wp_tOf, wp_tAnd, wp_tOr, wp_tNot, wp_tYes, wp_and, wp_sl, wp_oN, wp_oS, wp_mt, wp_kget, wp_gname, wp_gtup, wp_gnil, wp_gcons, wp_gsub, wpR_ok, wpR_bad, wpR_bind, wpR_no, wpS_ok_nx, wpS_ok_rt, wpS_bad, wp_add, wp_sub, wp_mul, wp_mod, wp_fdiv, wp_pow, wp_lt, wp_le, wp_gt, wp_ge, wp_eqI, wp_neI, wp_eqS, wp_neS, Tr.ix_tup, len_tup, call1, call2, call3, call4, wipeD, startD, tupD, List.map_cons, List.map_nil, List.length_cons, List.length_nil, List.replicate, List.cons_append, List.nil_append, List.getElem?_cons_zero, List.getElem?_cons_succ, List.set_cons_zero, List.set_cons_succ, atI_0, atI_1, atI_2, atI_3, atI_4, atI_5, if_true, Bool.false_eq_true, if_false, lim_0, lim_1, lim_2, lim_3, lim_4, lim_5, true_and, Nat.sub_zero, w10, decide_true]
        exact rest
      · simp only [wp_seq, wp_pass, wp_never, wp_expr, wp_ret, wp_retN, wp_ifS, wp_set, wp_asg, wp_par, wp_par3, wp_var, wp_K, wp_anil, wp_acons, wp_bin, wp_tup, wp_tupK, wp_lst, wp_call, wp_cb, wp_ifE, wp_tOf, wp_tAnd, wp_tOr, wp_tNot, wp_tYes, wp_and, wp_sl, wp_oN, wp_oS, wp_mt, wp_kget, wp_gname, wp_gtup, wp_gnil, wp_gcons, wp_gsub, wpR_ok, wpR_bad, wpR_bind, wpR_no, wpS_ok_nx, wpS_ok_rt, wpS_bad, wp_add, wp_sub, wp_mul, wp_mod, wp_fdiv, wp_pow, wp_lt, wp_le, wp_gt, wp_ge, wp_eqI, wp_neI, wp_eqS, wp_neS, Tr.ix_tup, len_tup, call1, call2, call3, call4, wipeD, startD, tupD, List.map_cons, List.map_nil, List.length_cons, List.length_nil, List.replicate, List.cons_append, List.nil_append, List.getElem?_cons_zero, List.getElem?_cons_succ, List.set_cons_zero, List.set_cons_succ, atI_0, atI_1, atI_2, atI_3, atI_4, atI_5, if_true, Bool.false_eq_true, if_false, lim_0, lim_1, lim_2, lim_3, lim_4, lim_5, true_and, Nat.sub_zero, w10, decide_false]
        by_cases w13 : way < 13
        · simp only [wp_seq, wp_pass, wp_never, wp_expr, wp_ret, wp_retN, wp_ifS, wp_set, wp_asg, wp_par, wp_par3, wp_var, wp_K, wp_anil, wp_acons, wp_bin, wp_tup, wp_tupK, wp_lst, wp_call, wp_cb, wp_ifE, wp_tOf, wp_tAnd, wp_tOr, wp_tNot, wp_tYes, wp_and, wp_sl, wp_oN, wp_oS, wp_mt, wp_kget, wp_gname, wp_gtup, wp_gnil, wp_gcons, wp_gsub, wpR_ok, wpR_bad, wpR_bind, wpR_no, wpS_ok_nx, wpS_ok_rt, wpS_bad, wp_add, wp_sub, wp_mul, wp_mod, wp_fdiv, wp_pow, wp_lt, wp_le, wp_gt, wp_ge, wp_eqI, wp_neI, wp_eqS, wp_neS, Tr.ix_tup, len_tup, call1, call2, call3, call4, wipeD, startD, tupD, List.map_cons, List.map_nil, List.length_cons, List.length_nil, List.replicate, List.cons_append, List.nil_append, List.getElem?_cons_zero, List.getElem?_cons_succ, List.set_cons_zero, List.set_cons_succ, atI_0, atI_1, atI_2, atI_3, atI_4, atI_5, if_true, Bool.false_eq_true, if_false, lim_0, lim_1, lim_2, lim_3, lim_4, lim_5, true_and, Nat.sub_zero, w13, decide_true]
          refine pick_wp get_new (by omega) (by simp; omega) fun d8 hd8 => ?_
          with_reducible refine next_wp (f7'.push _) (by omega) (by omega) (by omega) fun r9 M9 a9 b9 f9 x9 => ?_
          have x09 := x07.trans ((Ext.push _ _).trans x9)
          simp only [List.mem_cons, List.not_mem_nil, or_false] at hd8
          rcases hd8 with rfl | rfl | rfl
          · exact q (.stove "fire" table r9) M9 ⟨.inl rfl, tableE, a9, by omega⟩ (f9.mono (by omega)) x09
          · exact q (.stove "fire" table r9) M9 ⟨.inl rfl, tableE, a9, by omega⟩ (f9.mono (by omega)) x09
          · exact q (.stove "rush" table r9) M9 ⟨.inr rfl, tableE, a9, by omega⟩ (f9.mono (by omega)) x09
        · simp only [wp_seq, wp_pass, wp_never, wp_expr, wp_ret, wp_retN, wp_ifS, wp_set, wp_asg, wp_par, wp_par3, wp_var, wp_K, wp_anil, wp_acons, wp_bin, wp_tup, wp_tupK, wp_lst, wp_call, wp_cb, wp_ifE, wp_tOf, wp_tAnd, wp_tOr, wp_tNot, wp_tYes, wp_and, wp_sl, wp_oN, wp_oS, wp_mt, wp_kget, wp_gname, wp_gtup, wp_gnil, wp_gcons, wp_gsub, wpR_ok, wpR_bad, wpR_bind, wpR_no, wpS_ok_nx, wpS_ok_rt, wpS_bad, wp_add, wp_sub, wp_mul, wp_mod, wp_fdiv, wp_pow, wp_lt, wp_le, wp_gt, wp_ge, wp_eqI, wp_neI, wp_eqS, wp_neS, Tr.ix_tup, len_tup, call1, call2, call3, call4, wipeD, startD, tupD, List.map_cons, List.map_nil, List.length_cons, List.length_nil, List.replicate, List.cons_append, List.nil_append, List.getElem?_cons_zero, List.getElem?_cons_succ, List.set_cons_zero, List.set_cons_succ, atI_0, atI_1, atI_2, atI_3, atI_4, atI_5, if_true, Bool.false_eq_true, if_false, lim_0, lim_1, lim_2, lim_3, lim_4, lim_5, true_and, Nat.sub_zero, w13, decide_false]
          by_cases w14 : way = 13
          · simp only [wp_seq, wp_pass, wp_never, wp_expr, wp_ret, wp_retN, wp_ifS, wp_set, wp_asg, wp_par, wp_par3, wp_var, wp_K, wp_anil, wp_acons, wp_bin, wp_tup, wp_tupK, wp_lst, wp_call, wp_cb, wp_ifE, wp_tOf, wp_tAnd, wp_tOr, wp_tNot, wp_tYes, wp_and, wp_sl, wp_oN, wp_oS, wp_mt, wp_kget, wp_gname, wp_gtup, wp_gnil, wp_gcons, wp_gsub, wpR_ok, wpR_bad, wpR_bind, wpR_no, wpS_ok_nx, wpS_ok_rt, wpS_bad, wp_add, wp_sub, wp_mul, wp_mod, wp_fdiv, wp_pow, wp_lt, wp_le, wp_gt, wp_ge, wp_eqI, wp_neI, wp_eqS, wp_neS, Tr.ix_tup, len_tup, call1, call2, call3, call4, wipeD, startD, tupD, List.map_cons, List.map_nil, List.length_cons, List.length_nil, List.replicate, List.cons_append, List.nil_append, List.getElem?_cons_zero, List.getElem?_cons_succ, List.set_cons_zero, List.set_cons_succ, atI_0, atI_1, atI_2, atI_3, atI_4, atI_5, if_true, Bool.false_eq_true, if_false, lim_0, lim_1, lim_2, lim_3, lim_4, lim_5, true_and, Nat.sub_zero, w14, decide_true, List.length_map, tup_obj s7]
            have f7q : Feed f c cs M7 (n + 25) := f7'.mono (by omega)
            by_cases hl : (1 : Int) < ss.length
            · simp only [hl, decide_true, if_true]
              exact q (.even ss) M7 ⟨by omega, hss⟩ f7q x07
            · simp only [hl, decide_false, Bool.false_eq_true, if_false]
              exact q (.even seats) M7 ⟨hs2, hse⟩ f7q x07
          · simp only [wp_seq, wp_pass, wp_never, wp_expr, wp_ret, wp_retN, wp_ifS, wp_set, wp_asg, wp_par, wp_par3, wp_var, wp_K, wp_anil, wp_acons, wp_bin, wp_tup, wp_tupK, wp_lst, wp_call, wp_cb, wp_ifE, wp_tOf, wp_tAnd, wp_tOr, wp_tNot, wp_tYes, wp_and, wp_sl, wp_oN, wp_oS, wp_mt, wp_kget, wp_gname, wp_gtup, wp_gnil, wp_gcons, wp_gsub, wpR_ok, wpR_bad, wpR_bind, wpR_no, wpS_ok_nx, wpS_ok_rt, wpS_bad, wp_add, wp_sub, wp_mul, wp_mod, wp_fdiv, wp_pow, wp_lt, wp_le, wp_gt, wp_ge, wp_eqI, wp_neI, wp_eqS, wp_neS, Tr.ix_tup, len_tup, call1, call2, call3, call4, wipeD, startD, tupD, List.map_cons, List.map_nil, List.length_cons, List.length_nil, List.replicate, List.cons_append, List.nil_append, List.getElem?_cons_zero, List.getElem?_cons_succ, List.set_cons_zero, List.set_cons_succ, atI_0, atI_1, atI_2, atI_3, atI_4, atI_5, if_true, Bool.false_eq_true, if_false, lim_0, lim_1, lim_2, lim_3, lim_4, lim_5, true_and, Nat.sub_zero, w14, decide_false]
            refine any_wp t7 (by simp; omega) (by simp; omega) fun d8 hd8 => ?_
            obtain ⟨table2, htable2, rfl⟩ := List.mem_map.mp hd8
            have f7q : ∀ N, Feed f c cs (M7 ++ N) (n + 25) := fun N => (f7'.push N).mono (by omega)
            generalize hA : [D.tup [D.str "sit", D.str seat, D.str table], D.tup [D.str "move", D.str seat, D.str table], D.tup [D.str "join", D.str table, D.str table2], D.tup [D.str "go", D.str seat]] = A
            generalize hB : [D.tup [D.str "pay", D.str seat, D.int (1 + p7)], D.tup [D.str "take", D.str seat, D.str other, D.int (1 + p7)]] = B
            have hAl : A.length = 4 := by rw [← hA]; rfl
            have hBl : B.length = 2 := by rw [← hB]; rfl
            rw [add_obj (get_push get_new) get_new (by unfold lim; omega)]
            refine pick_wp get_new (by omega) (by rw [List.length_append, hAl, hBl]; omega) fun d9 hd9 => ?_
            rw [← hA, ← hB] at hd9
            simp only [List.mem_cons, List.not_mem_nil, or_false, List.cons_append, List.nil_append] at hd9
            have fq : Feed f c cs (M7 ++ [MO.lst A] ++ [MO.lst B] ++ [MO.lst (A ++ B)]) (n + 25) := (((f7'.push _).push _).push _).mono (by omega)
            have xq : Ext [f] M (M7 ++ [MO.lst A] ++ [MO.lst B] ++ [MO.lst (A ++ B)]) := ((x07.trans (Ext.push _ _)).trans (Ext.push _ _)).trans (Ext.push _ _)
            rcases hd9 with rfl | rfl | rfl | rfl | rfl | rfl
            · exact q (.pair "sit" seat table) _ ⟨.inl rfl, seatE, tableE⟩ fq xq
            · exact q (.pair "move" seat table) _ ⟨.inr (.inl rfl), seatE, tableE⟩ fq xq
            · exact q (.pair "join" table table2) _ ⟨.inr (.inr rfl), tableE, hte _ htable2⟩ fq xq
            · exact q (.go seat) _ seatE fq xq
            · exact q (.pay seat (1 + p7)) _ ⟨seatE, pence⟩ fq xq
            · exact q (.take seat other (1 + p7)) _ ⟨seatE, otherE, pence⟩ fq xq
end Lw

set_option Elab.async false
set_option linter.all false
set_option maxRecDepth 100000
set_option maxHeartbeats 4000000
namespace Lw
open PySem PySem.Spec PyProof.Rows L2 Tr
structure Pg where
  m : Int
  k : Int
  d : Dd
def Pg.toD (p : Pg) : D := .tup [.tup [.int p.m, .int p.k], p.d.toD]
def Pg.Good (E : List Str) (p : Pg) : Prop := In p.m ∧ In p.k ∧ p.d.Good E
/-! data of a deed -/
def Dd.pd : Dd → PyData
  | .dish w i => .tuple [.str w, .int i]
  | .change i x => .tuple [.str "change", .int i, .str x]
  | .ask i x k ss => .tuple [.str "ask", .int i, .str x, .int k, .tuple (ss.map .str)]
  | .stove w t k => .tuple [.str w, .str t, .int k]
  | .even ss => .tuple [.str "even", .tuple (ss.map .str)]
  | .pair w a b => .tuple [.str w, .str a, .str b]
  | .go a => .tuple [.str "go", .str a]
  | .pay a i => .tuple [.str "pay", .str a, .int i]
  | .take a b i => .tuple [.str "take", .str a, .str b, .int i]
abbrev SOk (x : Str) : Prop := PyData.strOk x = true
theorem strs_lay : ∀ cs : List Str, (∀ x ∈ cs, SOk x) → PyData.canLayAll0 (cs.map PyData.str) = true ∧ PyData.depthAll (cs.map PyData.str) = 0
  | [], _ => ⟨by simp [PyData.canLayAll0], by simp [PyData.depthAll]⟩
  | c :: cs, h => by
    obtain ⟨h1, h2⟩ := strs_lay cs fun x hx => h x (List.mem_cons_of_mem _ hx)
    have h3 := h c List.mem_cons_self
    exact ⟨by simp [PyData.canLayAll0, PyData.canLay0, h1, h3], by simp [PyData.depthAll, PyData.depth, h2]⟩
theorem wI_ok : ∀ x ∈ wItems, SOk x := by decide +kernel
theorem s_ok : SOk "ask" ∧ SOk "change" ∧ SOk "even" ∧ SOk "go" ∧ SOk "pay" ∧ SOk "take" ∧ SOk "serve" ∧ SOk "back" ∧ SOk "strike" ∧ SOk "fire" ∧ SOk "rush" ∧ SOk "sit" ∧ SOk "move" ∧ SOk "join" := by decide +kernel
/-- the two first values of a deed, as data -/
def Dd.two : Dd → PyData × PyData
  | .dish w i => (.str w, .int i)
  | .change i x => (.str "change", .int i)
  | .ask i x k ss => (.str "ask", .int i)
  | .stove w t k => (.str w, .str t)
  | .even ss => (.str "even", .tuple (ss.map .str))
  | .pair w a b => (.str w, .str a)
  | .go a => (.str "go", .str a)
  | .pay a i => (.str "pay", .str a)
  | .take a b i => (.str "take", .str a)
theorem two_ok {E : List Str} (hE : ∀ x ∈ E, SOk x) {d : Dd} (h : d.Good E) : d.two.1.canLay0 = true ∧ d.two.2.canLay0 = true ∧ d.two.1.depth ≤ 3 ∧ d.two.2.depth ≤ 3 := by
  obtain ⟨o1, o2, o3, o4, o5, o6, o7, o8, o9, o10, o11, o12, o13, o14⟩ := s_ok
  cases d with
  | dish w i =>
    have : SOk w := by rcases h.1 with rfl | rfl | rfl <;> assumption
    simp [Dd.two, PyData.canLay0, PyData.depth, this]
  | change i x => simp [Dd.two, PyData.canLay0, PyData.depth, o2]
  | ask i x k ss => simp [Dd.two, PyData.canLay0, PyData.depth, o1]
  | stove w t k =>
    have : SOk w := by rcases h.1 with rfl | rfl <;> assumption
    simp [Dd.two, PyData.canLay0, PyData.depth, this, hE t h.2.1]
  | even ss =>
    obtain ⟨l1, l2⟩ := strs_lay ss fun x hx => hE x (h.2 x hx)
    simp [Dd.two, PyData.canLay0, PyData.depth, o3, l1, l2]
  | pair w a b =>
    have : SOk w := by rcases h.1 with rfl | rfl | rfl <;> assumption
    simp [Dd.two, PyData.canLay0, PyData.depth, this, hE a h.2.1]
  | go a => simp [Dd.two, PyData.canLay0, PyData.depth, o4, hE a h]
  | pay a i => simp [Dd.two, PyData.canLay0, PyData.depth, o5, hE a h.1]
  | take a b i => simp [Dd.two, PyData.canLay0, PyData.depth, o6, hE a h.1]
theorem toD_pd (f : Nat → Option PyData) (d : Dd) : pdW f d.toD = some d.pd := by
  cases d <;> simp [Dd.toD, Dd.pd, pdW, pdsW, pds_str]
/-- the first two of a deed are comparable -/
theorem cut_eq {E : List Str} (hE : ∀ x ∈ E, SOk x) {d : Dd} (hd : d.Good E) (asked : Int) (M : Mem) : ∃ (xs : List D) (b : Bool), d.toD = .tup xs ∧ gEq (.tup (cutD xs none (some 2))) (.tup [.str "ask", .int asked]) M = .ok (.bl b) M := by
  have shp : ∀ p q : PyData, p.canLay0 = true → q.canLay0 = true → p.depth ≤ 3 → q.depth ≤ 3 → SeqAt.shaped (.tuple [p, q]) = true := fun p q h1 h2 h3 h4 => by
    show (PyData.canLay0 (.tuple [p, q]) && decide (PyData.depth (.tuple [p, q]) ≤ 64)) = true
    simp [PyData.canLay0, PyData.canLayAll0, PyData.depth, PyData.depthAll, h1, h2]
    omega
  obtain ⟨k1, k2, k3, k4⟩ := two_ok hE hd
  have go : ∀ (x y : D), pdW (pdO M 4) x = some d.two.1 → pdW (pdO M 4) y = some d.two.2 → ∃ b, gEq (.tup [x, y]) (.tup [.str "ask", .int asked]) M = .ok (.bl b) M := fun x y h1 h2 => by
    have e1 : Tr.pd M (.tup [x, y]) = some (.tuple [d.two.1, d.two.2]) := by simp [Tr.pd, pdW, pdsW, h1, h2]
    have e2 : Tr.pd M (.tup [.str "ask", .int asked]) = some (.tuple [.str "ask", .int asked]) := by simp [Tr.pd, pdW, pdsW]
    have s2 : SeqAt.shaped (.tuple [.str "ask", .int asked]) = true := shp _ _ (by simp [PyData.canLay0, s_ok.1]) (by simp [PyData.canLay0]) (by simp [PyData.depth]) (by simp [PyData.depth])
    refine ⟨PyData.eqv (.tuple [d.two.1, d.two.2]) (.tuple [.str "ask", .int asked]), ?_⟩
    unfold gEq eqD
    rw [show scalD (.tup [x, y]) (.tup [.str "ask", .int asked]) = none from rfl, e1, e2]
    dsimp only
    rw [if_pos ⟨shp _ _ k1 k2 k3 k4, s2⟩]
  cases d with
  | even ss =>
    obtain ⟨b, e⟩ := go (.str "even") (.tup (ss.map .str)) rfl (by simp [pdW, pds_str, Dd.two])
    exact ⟨_, b, rfl, e⟩
  | dish w i => obtain ⟨b, e⟩ := go (.str w) (.int i) rfl rfl; exact ⟨_, b, rfl, e⟩
  | change i x => obtain ⟨b, e⟩ := go (.str "change") (.int i) rfl rfl; exact ⟨_, b, rfl, e⟩
  | ask i x k ss => obtain ⟨b, e⟩ := go (.str "ask") (.int i) rfl rfl; exact ⟨_, b, rfl, e⟩
  | stove w t k => obtain ⟨b, e⟩ := go (.str w) (.str t) rfl rfl; exact ⟨_, b, rfl, e⟩
  | pair w a b => obtain ⟨b, e⟩ := go (.str w) (.str a) rfl rfl; exact ⟨_, b, rfl, e⟩
  | go a => obtain ⟨b, e⟩ := go (.str "go") (.str a) rfl rfl; exact ⟨_, b, rfl, e⟩
  | pay a i => obtain ⟨b, e⟩ := go (.str "pay") (.str a) rfl rfl; exact ⟨_, b, rfl, e⟩
  | take a b i => obtain ⟨b, e⟩ := go (.str "take") (.str a) rfl rfl; exact ⟨_, b, rfl, e⟩
theorem pages_wp {f c n s t many : Nat} {cs : List Int} {M : Mem} {Q : D → Mem → Prop} {rows : List D} {w2 : List D} {seats tables E : List Str} (h : Feed f c cs M n) (hn : n < 10000) (hr1 : 1 ≤ rows.length) (hr4 : rows.length ≤ 4) (hrow : ∀ r ∈ rows, IsRow r)
    (hs : M[s]? = some (.lst (seats.map .str))) (hsf : s ≠ f) (hs1 : 2 ≤ seats.length) (hs2 : seats.length ≤ 4) (hse : ∀ x ∈ seats, x ∈ E) (ht : M[t]? = some (.lst (tables.map .str))) (htf : t ≠ f) (ht1 : 2 ≤ tables.length) (ht2 : tables.length ≤ 3) (hte : ∀ x ∈ tables, x ∈ E) (hE : ∀ x ∈ E, SOk x) (hm : many ≤ 16)
    (q : ∀ (o : Nat) (ps : List Pg) (M' : Mem), M'[o]? = some (.lst (ps.map Pg.toD)) → M.length ≤ o → ps.length ≤ 20 → (∀ p ∈ ps, p.Good E) → Feed f c cs M' (n + 1000) → Ext [f] M M' → Q (.obj o) M') : wpR (F__law_pages [.obj f, .tup (.tup rows :: w2), .tup [.obj s, .obj t], .int many] M) Q := by
  unfold F__law_pages B__law_pages
  rw [wp_run]
  simp only [wp_seq, wp_pass, wp_never, wp_expr, wp_ret, wp_retN, wp_ifS, wp_set, wp_asg, wp_par, wp_par3, wp_var, wp_K, wp_anil, wp_acons, wp_bin, wp_tup, wp_tupK, wp_lst, wp_call, wp_cb, wp_ifE, wp_tOf, wp_tAnd, wp_tOr, wp_tNot, wp_tYes, wp_and, wp_sl, wp_oN, wp_oS, wp_mt, wp_kget, wp_gname, wp_gtup, wp_gnil, wp_gcons, wp_gsub, wpR_ok, wpR_bad, wpR_bind, wpR_no, wpS_ok_nx, wpS_ok_rt, wpS_bad, wp_add, wp_sub, wp_mul, wp_mod, wp_fdiv, wp_pow, wp_lt, wp_le, wp_gt, wp_ge, wp_eqI, wp_neI, wp_eqS, wp_neS, Tr.ix_tup, len_tup, call1, call2, call3, call4, wipeD, startD, tupD, List.map_cons, List.map_nil, List.length_cons, List.length_nil, List.replicate, List.cons_append, List.nil_append, List.getElem?_cons_zero, List.getElem?_cons_succ, List.set_cons_zero, List.set_cons_succ, atI_0, atI_1, atI_2, atI_3, atI_4, atI_5, if_true, Bool.false_eq_true, if_false, lim_0, lim_1, lim_2, lim_3, lim_4, lim_5, true_and, Nat.sub_zero]
  have lf := h.lf
  with_reducible refine lcV_wp (d := .tup rows) 0 (fun i acc => acc.length = i ∧ ∃ xs : List Str, acc = xs.map D.str ∧ ∀ x ∈ xs, x ∈ wItems) (fun R hR => by simp only [wp_seq, wp_pass, wp_never, wp_expr, wp_ret, wp_retN, wp_ifS, wp_set, wp_asg, wp_par, wp_par3, wp_var, wp_K, wp_anil, wp_acons, wp_bin, wp_tup, wp_tupK, wp_lst, wp_call, wp_cb, wp_ifE, wp_tOf, wp_tAnd, wp_tOr, wp_tNot, wp_tYes, wp_and, wp_sl, wp_oN, wp_oS, wp_mt, wp_kget, wp_gname, wp_gtup, wp_gnil, wp_gcons, wp_gsub, wpR_ok, wpR_bad, wpR_bind, wpR_no, wpS_ok_nx, wpS_ok_rt, wpS_bad, wp_add, wp_sub, wp_mul, wp_mod, wp_fdiv, wp_pow, wp_lt, wp_le, wp_gt, wp_ge, wp_eqI, wp_neI, wp_eqS, wp_neS, Tr.ix_tup, len_tup, call1, call2, call3, call4, wipeD, startD, tupD, List.map_cons, List.map_nil, List.length_cons, List.length_nil, List.replicate, List.cons_append, List.nil_append, List.getElem?_cons_zero, List.getElem?_cons_succ, List.set_cons_zero, List.set_cons_succ, atI_0, atI_1, atI_2, atI_3, atI_4, atI_5, if_true, Bool.false_eq_true, if_false, lim_0, lim_1, lim_2, lim_3, lim_4, lim_5, true_and, Nat.sub_zero]; exact hR) (fun _ _ => rfl) h ⟨rfl, [], rfl, by simp⟩ (by omega) ?_ ?_
  · intro i acc M' hi hJ hf hx
    obtain ⟨hl, xs, rfl, hxs⟩ := hJ
    obtain ⟨x, ps, e, hx0⟩ := hrow _ (getD_mem hi)
    rw [e]
    simp only [wp_seq, wp_pass, wp_never, wp_expr, wp_ret, wp_retN, wp_ifS, wp_set, wp_asg, wp_par, wp_par3, wp_var, wp_K, wp_anil, wp_acons, wp_bin, wp_tup, wp_tupK, wp_lst, wp_call, wp_cb, wp_ifE, wp_tOf, wp_tAnd, wp_tOr, wp_tNot, wp_tYes, wp_and, wp_sl, wp_oN, wp_oS, wp_mt, wp_kget, wp_gname, wp_gtup, wp_gnil, wp_gcons, wp_gsub, wpR_ok, wpR_bad, wpR_bind, wpR_no, wpS_ok_nx, wpS_ok_rt, wpS_bad, wp_add, wp_sub, wp_mul, wp_mod, wp_fdiv, wp_pow, wp_lt, wp_le, wp_gt, wp_ge, wp_eqI, wp_neI, wp_eqS, wp_neS, Tr.ix_tup, len_tup, call1, call2, call3, call4, wipeD, startD, tupD, List.map_cons, List.map_nil, List.length_cons, List.length_nil, List.replicate, List.cons_append, List.nil_append, List.getElem?_cons_zero, List.getElem?_cons_succ, List.set_cons_zero, List.set_cons_succ, atI_0, atI_1, atI_2, atI_3, atI_4, atI_5, if_true, Bool.false_eq_true, if_false, lim_0, lim_1, lim_2, lim_3, lim_4, lim_5, true_and, Nat.sub_zero]
    exact ⟨⟨by simp at hl ⊢; omega, xs ++ [x], by simp, fun y hy => by
      rcases List.mem_append.mp hy with z | z
      · exact hxs y z
      · rw [List.mem_singleton.mp z]; exact hx0⟩, hf, Ext.refl _ _⟩
  rintro acc M1 ⟨hal, items, rfl, hitems⟩ _ f1 x1 o1
  rw [List.length_map] at hal
  have l1 := f1.lf
  have hof : M.length ≠ f := by omega
  have lM1 : M.length < M1.length := (List.getElem?_eq_some_iff.mp o1).1
  have f1' : Feed f c cs M1 n := f1.mono (by omega)
  clear f1
  have s1 := x1.get (by simpa using hsf) hs
  have t1 := x1.get (by simpa using htf) ht
  rw [len_obj t1, List.length_map]
  with_reducible refine next_wp f1' (by omega) (by omega) (by omega) fun first M2 a2 b2 f2 x2 => ?_
  have s2 := x2.get (by simpa using hsf) s1
  have t2 := x2.get (by simpa using htf) t1
  have o2 := x2.get (by simpa using hof) o1
  have l2 := f2.lf
  have lM2 : M1.length ≤ M2.length := x2.1
  have x02 := x1.trans x2
  with_reducible refine lcR_wp (N := seats.length) 1 (fun i acc => ∃ ps : List Pg, acc = ps.map Pg.toD ∧ ∀ p ∈ ps, p.Good E) (fun R hR => by simp only [wp_seq, wp_pass, wp_never, wp_expr, wp_ret, wp_retN, wp_ifS, wp_set, wp_asg, wp_par, wp_par3, wp_var, wp_K, wp_anil, wp_acons, wp_bin, wp_tup, wp_tupK, wp_lst, wp_call, wp_cb, wp_ifE, wp_tOf, wp_tAnd, wp_tOr, wp_tNot, wp_tYes, wp_and, wp_sl, wp_oN, wp_oS, wp_mt, wp_kget, wp_gname, wp_gtup, wp_gnil, wp_gcons, wp_gsub, wpR_ok, wpR_bad, wpR_bind, wpR_no, wpS_ok_nx, wpS_ok_rt, wpS_bad, wp_add, wp_sub, wp_mul, wp_mod, wp_fdiv, wp_pow, wp_lt, wp_le, wp_gt, wp_ge, wp_eqI, wp_neI, wp_eqS, wp_neS, Tr.ix_tup, len_tup, call1, call2, call3, call4, wipeD, startD, tupD, List.map_cons, List.map_nil, List.length_cons, List.length_nil, List.replicate, List.cons_append, List.nil_append, List.getElem?_cons_zero, List.getElem?_cons_succ, List.set_cons_zero, List.set_cons_succ, atI_0, atI_1, atI_2, atI_3, atI_4, atI_5, if_true, Bool.false_eq_true, if_false, lim_0, lim_1, lim_2, lim_3, lim_4, lim_5, true_and, Nat.sub_zero, len_obj s2, List.length_map]; exact hR) f2 ⟨[], rfl, by simp⟩ (by omega) ?_ ?_
  · intro i acc M' hi hJ hf hx
    obtain ⟨ps, rfl, hps⟩ := hJ
    have s3 := hx.get (by simpa using hsf) s2
    have t3 := hx.get (by simpa using htf) t2
    simp only [wp_seq, wp_pass, wp_never, wp_expr, wp_ret, wp_retN, wp_ifS, wp_set, wp_asg, wp_par, wp_par3, wp_var, wp_K, wp_anil, wp_acons, wp_bin, wp_tup, wp_tupK, wp_lst, wp_call, wp_cb, wp_ifE, wp_tOf, wp_tAnd, wp_tOr, wp_tNot, wp_tYes, wp_and, wp_sl, wp_oN, wp_oS, wp_mt, wp_kget, wp_gname, wp_gtup, wp_gnil, wp_gcons, wp_gsub, wpR_ok, wpR_bad, wpR_bind, wpR_no, wpS_ok_nx, wpS_ok_rt, wpS_bad, wp_add, wp_sub, wp_mul, wp_mod, wp_fdiv, wp_pow, wp_lt, wp_le, wp_gt, wp_ge, wp_eqI, wp_neI, wp_eqS, wp_neS, Tr.ix_tup, len_tup, call1, call2, call3, call4, wipeD, startD, tupD, List.map_cons, List.map_nil, List.length_cons, List.length_nil, List.replicate, List.cons_append, List.nil_append, List.getElem?_cons_zero, List.getElem?_cons_succ, List.set_cons_zero, List.set_cons_succ, atI_0, atI_1, atI_2, atI_3, atI_4, atI_5, if_true, Bool.false_eq_true, if_false, lim_0, lim_1, lim_2, lim_3, lim_4, lim_5, true_and, Nat.sub_zero]
    refine pick_wp s3 (by omega) (by simp; omega) fun d1 hd1 => ?_
    obtain ⟨seat, hseat, rfl⟩ := List.mem_map.mp hd1
    with_reducible refine next_wp hf (by omega) (by omega) (by omega) fun r6 M6 a6 b6 f6 x6 => ?_
    simp only [wp_seq, wp_pass, wp_never, wp_expr, wp_ret, wp_retN, wp_ifS, wp_set, wp_asg, wp_par, wp_par3, wp_var, wp_K, wp_anil, wp_acons, wp_bin, wp_tup, wp_tupK, wp_lst, wp_call, wp_cb, wp_ifE, wp_tOf, wp_tAnd, wp_tOr, wp_tNot, wp_tYes, wp_and, wp_sl, wp_oN, wp_oS, wp_mt, wp_kget, wp_gname, wp_gtup, wp_gnil, wp_gcons, wp_gsub, wpR_ok, wpR_bad, wpR_bind, wpR_no, wpS_ok_nx, wpS_ok_rt, wpS_bad, wp_add, wp_sub, wp_mul, wp_mod, wp_fdiv, wp_pow, wp_lt, wp_le, wp_gt, wp_ge, wp_eqI, wp_neI, wp_eqS, wp_neS, Tr.ix_tup, len_tup, call1, call2, call3, call4, wipeD, startD, tupD, List.map_cons, List.map_nil, List.length_cons, List.length_nil, List.replicate, List.cons_append, List.nil_append, List.getElem?_cons_zero, List.getElem?_cons_succ, List.set_cons_zero, List.set_cons_succ, atI_0, atI_1, atI_2, atI_3, atI_4, atI_5, if_true, Bool.false_eq_true, if_false, lim_0, lim_1, lim_2, lim_3, lim_4, lim_5, true_and, Nat.sub_zero]
    refine ⟨⟨by omega, by omega⟩, ?_⟩
    have t6 := x6.get (by simpa using htf) t3
    refine any_wp t6 (by simp; omega) (by simp; omega) fun d2 hd2 => ?_
    obtain ⟨table, htable, rfl⟩ := List.mem_map.mp hd2
    refine ⟨⟨ps ++ [⟨0, i, .pair "sit" seat table⟩], by simp [Pg.toD, Dd.toD], fun p hp => ?_⟩, f6.mono (by omega), x6⟩
    rcases List.mem_append.mp hp with z | z
    · exact hps p z
    · rw [List.mem_singleton.mp z]
      exact (show In 0 ∧ In (i : Int) ∧ Dd.Good E (.pair "sit" seat table) from ⟨⟨by omega, by omega⟩, ⟨by omega, by omega⟩, .inl rfl, hse _ hseat, hte _ htable⟩)
  rintro acc M3 ⟨ps, rfl, hps⟩ hpl f3 x3 o3
  rw [List.length_map] at hpl
  have lM3 : M2.length < M3.length := (List.getElem?_eq_some_iff.mp o3).1
  have s3 := x3.get (by simpa using hsf) s2
  have t3 := x3.get (by simpa using htf) t2
  have io3 := x3.get (by simpa using hof) o2
  have x03 := x02.trans x3
  have hp2 : M2.length ≠ f ∧ M2.length ≠ c ∧ M2.length ≠ M.length ∧ M.length ≤ M2.length := by omega
  have lsM : s < M.length ∧ t < M.length := ⟨(List.getElem?_eq_some_iff.mp hs).1, (List.getElem?_eq_some_iff.mp ht).1⟩
  have hp3 : M2.length ≠ s ∧ M2.length ≠ t := by omega
  generalize M2.length = p at o3 hp2 hp3 ⊢
  generalize hoo : M.length = o at o3 io3 hp2 hof ⊢
  with_reducible refine for_wp ?_
  simp only [wp_irng, wp_seq, wp_pass, wp_never, wp_expr, wp_ret, wp_retN, wp_ifS, wp_set, wp_asg, wp_par, wp_par3, wp_var, wp_K, wp_anil, wp_acons, wp_bin, wp_tup, wp_tupK, wp_lst, wp_call, wp_cb, wp_ifE, wp_tOf, wp_tAnd, wp_tOr, wp_tNot, wp_tYes, wp_and, wp_sl, wp_oN, wp_oS, wp_mt, wp_kget, wp_gname, wp_gtup, wp_gnil, wp_gcons, wp_gsub, wpR_ok, wpR_bad, wpR_bind, wpR_no, wpS_ok_nx, wpS_ok_rt, wpS_bad, wp_add, wp_sub, wp_mul, wp_mod, wp_fdiv, wp_pow, wp_lt, wp_le, wp_gt, wp_ge, wp_eqI, wp_neI, wp_eqS, wp_neS, Tr.ix_tup, len_tup, call1, call2, call3, call4, wipeD, startD, tupD, List.map_cons, List.map_nil, List.length_cons, List.length_nil, List.replicate, List.cons_append, List.nil_append, List.getElem?_cons_zero, List.getElem?_cons_succ, List.set_cons_zero, List.set_cons_succ, atI_0, atI_1, atI_2, atI_3, atI_4, atI_5, if_true, Bool.false_eq_true, if_false, lim_0, lim_1, lim_2, lim_3, lim_4, lim_5, true_and, Nat.sub_zero]
  obtain ⟨I, hI⟩ : ∃ I : Nat → DEnv → Mem → Prop, ∀ i env M', I i env M' ↔ ∃ (w1 w2' : Option D) (mi : Int) (asked : Nat) (ps : List Pg), env = [some (.obj f), some (.tup (.tup rows :: w2)), some (.tup [.obj s, .obj t]), some (.int many), some (.obj o), some (.obj s), some (.obj t), some (.int first), some (.obj p), some (.int mi), some (.int asked), w1, w2', none] ∧
    M'[p]? = some (.lst (ps.map Pg.toD)) ∧ ps.length ≤ 4 + i ∧ (∀ x ∈ ps, x.Good E) ∧ asked ≤ i ∧ 0 ≤ mi ∧ mi ≤ 4 * i ∧ Feed f c cs M' (n + 20 + 30 * i) ∧ Ext [f, p] M3 M' := ⟨_, fun _ _ _ => Iff.rfl⟩
  refine ⟨r62_small (by omega) (by omega), I, (hI _ _ _).mpr ⟨none, none, 0, 0, ps, rfl, o3, by omega, hps, by omega, by omega, by omega, f3.mono (by omega), Ext.refl _ _⟩, ?_, ?_⟩
  · intro i env M' hi hh
    obtain ⟨w1, w2', mi, asked, ps, rfl, hpp, hpl, hps, ha, m0, m1, hf, hx⟩ := (hI _ _ _).mp hh
    have hi' : i < many := by simpa [itR] using hi
    refine ⟨_, itR_in (by simpa using hi'), ?_⟩
    simp only [wp_seq, wp_pass, wp_never, wp_expr, wp_ret, wp_retN, wp_ifS, wp_set, wp_asg, wp_par, wp_par3, wp_var, wp_K, wp_anil, wp_acons, wp_bin, wp_tup, wp_tupK, wp_lst, wp_call, wp_cb, wp_ifE, wp_tOf, wp_tAnd, wp_tOr, wp_tNot, wp_tYes, wp_and, wp_sl, wp_oN, wp_oS, wp_mt, wp_kget, wp_gname, wp_gtup, wp_gnil, wp_gcons, wp_gsub, wpR_ok, wpR_bad, wpR_bind, wpR_no, wpS_ok_nx, wpS_ok_rt, wpS_bad, wp_add, wp_sub, wp_mul, wp_mod, wp_fdiv, wp_pow, wp_lt, wp_le, wp_gt, wp_ge, wp_eqI, wp_neI, wp_eqS, wp_neS, Tr.ix_tup, len_tup, call1, call2, call3, call4, wipeD, startD, tupD, List.map_cons, List.map_nil, List.length_cons, List.length_nil, List.replicate, List.cons_append, List.nil_append, List.getElem?_cons_zero, List.getElem?_cons_succ, List.set_cons_zero, List.set_cons_succ, atI_0, atI_1, atI_2, atI_3, atI_4, atI_5, if_true, Bool.false_eq_true, if_false, lim_0, lim_1, lim_2, lim_3, lim_4, lim_5, true_and, Nat.sub_zero]
    with_reducible refine next_wp hf (by omega) (by omega) (by omega) fun r6 M6 a6 b6 f6 x6 => ?_
    simp only [wp_seq, wp_pass, wp_never, wp_expr, wp_ret, wp_retN, wp_ifS, wp_set, wp_asg, wp_par, wp_par3, wp_var, wp_K, wp_anil, wp_acons, wp_bin, wp_tup, wp_tupK, wp_lst, wp_call, wp_cb, wp_ifE, wp_tOf, wp_tAnd, wp_tOr, wp_tNot, wp_tYes, wp_and, wp_sl, wp_oN, wp_oS, wp_mt, wp_kget, wp_gname, wp_gtup, wp_gnil, wp_gcons, wp_gsub, wpR_ok, wpR_bad, wpR_bind, wpR_no, wpS_ok_nx, wpS_ok_rt, wpS_bad, wp_add, wp_sub, wp_mul, wp_mod, wp_fdiv, wp_pow, wp_lt, wp_le, wp_gt, wp_ge, wp_eqI, wp_neI, wp_eqS, wp_neS, Tr.ix_tup, len_tup, call1, call2, call3, call4, wipeD, startD, tupD, List.map_cons, List.map_nil, List.length_cons, List.length_nil, List.replicate, List.cons_append, List.nil_append, List.getElem?_cons_zero, List.getElem?_cons_succ, List.set_cons_zero, List.set_cons_succ, atI_0, atI_1, atI_2, atI_3, atI_4, atI_5, if_true, Bool.false_eq_true, if_false, lim_0, lim_1, lim_2, lim_3, lim_4, lim_5, true_and, Nat.sub_zero]
    have hx6 := hx.trans (x6.weak (gs := [f, p]) (by simp))
    with_reducible refine deed_wp (E := E) f6 (by omega) (hx6.get (by simp; omega) io3) hof (by omega) (by omega) hitems (hx6.get (by simp; omega) s3) hsf hs1 hs2 hse (hx6.get (by simp; omega) t3) htf ht1 ht2 hte (by omega) fun dd M7 hd f7 x7 => ?_
    obtain ⟨xs, b, e1, e2⟩ := cut_eq hE hd asked M7
    have hsl : wpR (gSl dd.toD none (some 2) M7) = fun S => S (.tup (cutD xs none (some 2))) M7 := by rw [e1]; rfl
    have hgi : wpR (gInt1 [.bl b] M7) = fun (S : D → Mem → Prop) => S (.int (if b then 1 else 0)) M7 := rfl
    have p7 := (x6.trans x7).get (by simp; omega) hpp
    simp only [wp_seq, wp_pass, wp_never, wp_expr, wp_ret, wp_retN, wp_ifS, wp_set, wp_asg, wp_par, wp_par3, wp_var, wp_K, wp_anil, wp_acons, wp_bin, wp_tup, wp_tupK, wp_lst, wp_call, wp_cb, wp_ifE, wp_tOf, wp_tAnd, wp_tOr, wp_tNot, wp_tYes, wp_and, wp_sl, wp_oN, wp_oS, wp_mt, wp_kget, wp_gname, wp_gtup, wp_gnil, wp_gcons, wp_gsub, wpR_ok, wpR_bad, wpR_bind, wpR_no, wpS_ok_nx, wpS_ok_rt, wpS_bad, wp_add, wp_sub, wp_mul, wp_mod, wp_fdiv, wp_pow, wp_lt, wp_le, wp_gt, wp_ge, wp_eqI, wp_neI, wp_eqS, wp_neS, Tr.ix_tup, len_tup, call1, call2, call3, call4, wipeD, startD, tupD, List.map_cons, List.map_nil, List.length_cons, List.length_nil, List.replicate, List.cons_append, List.nil_append, List.getElem?_cons_zero, List.getElem?_cons_succ, List.set_cons_zero, List.set_cons_succ, atI_0, atI_1, atI_2, atI_3, atI_4, atI_5, if_true, Bool.false_eq_true, if_false, lim_0, lim_1, lim_2, lim_3, lim_4, lim_5, true_and, Nat.sub_zero, hsl, e2, hgi, ty_list p7, len_obj p7, List.length_map]
    have ty7 := ty_list p7
    rw [app_obj p7 (by rw [List.length_map]; unfold lim; omega)]
    obtain ⟨asked', e3, hle⟩ : ∃ a' : Nat, (asked : Int) + (if b then 1 else 0) = (a' : Int) ∧ a' ≤ i + 1 := by
      cases b
      · exact ⟨asked, by simp, by omega⟩
      · exact ⟨asked + 1, by simp, by omega⟩
    rw [e3]
    refine (hI _ _ _).mpr ⟨_, _, mi + r6, asked', ps ++ [⟨mi + r6, ps.length, dd⟩], rfl, ?_, by simp; omega, ?_, hle, by omega, by omega, (f7.put (by omega) (by omega)).mono (by omega), (hx6.trans (x7.weak (by simp))).trans (Ext.set _ (by simp))⟩
    · rw [get_set p7]
      simp [Pg.toD]
    · intro x hxx
      rcases List.mem_append.mp hxx with z | z
      · exact hps x z
      · rw [List.mem_singleton.mp z]
        exact (show In (mi + r6) ∧ In (ps.length : Int) ∧ Dd.Good E dd from ⟨⟨by omega, by omega⟩, ⟨by omega, by omega⟩, hd⟩)
  · intro env M' hh
    obtain ⟨w1, w2', mi, asked, ps, rfl, hpp, hpl, hps, ha, m0, m1, hf, hx⟩ := (hI _ _ _).mp hh
    refine ⟨itR_end, ?_⟩
    have hN : (itR 0 (many : Int).toNat).n = many := by simp [itR]
    rw [hN] at hf hpl
    simp only [wp_seq, wp_pass, wp_never, wp_expr, wp_ret, wp_retN, wp_ifS, wp_set, wp_asg, wp_par, wp_par3, wp_var, wp_K, wp_anil, wp_acons, wp_bin, wp_tup, wp_tupK, wp_lst, wp_call, wp_cb, wp_ifE, wp_tOf, wp_tAnd, wp_tOr, wp_tNot, wp_tYes, wp_and, wp_sl, wp_oN, wp_oS, wp_mt, wp_kget, wp_gname, wp_gtup, wp_gnil, wp_gcons, wp_gsub, wpR_ok, wpR_bad, wpR_bind, wpR_no, wpS_ok_nx, wpS_ok_rt, wpS_bad, wp_add, wp_sub, wp_mul, wp_mod, wp_fdiv, wp_pow, wp_lt, wp_le, wp_gt, wp_ge, wp_eqI, wp_neI, wp_eqS, wp_neS, Tr.ix_tup, len_tup, call1, call2, call3, call4, wipeD, startD, tupD, List.map_cons, List.map_nil, List.length_cons, List.length_nil, List.replicate, List.cons_append, List.nil_append, List.getElem?_cons_zero, List.getElem?_cons_succ, List.set_cons_zero, List.set_cons_succ, atI_0, atI_1, atI_2, atI_3, atI_4, atI_5, if_true, Bool.false_eq_true, if_false, lim_0, lim_1, lim_2, lim_3, lim_4, lim_5, true_and, Nat.sub_zero]
    exact q p ps M' hpp (by omega) (by omega) hps (hf.mono (by omega)) ((x03.weak (gs := [f, p]) (by simp)).trans hx |>.fresh (by simp; omega))
end Lw

set_option Elab.async false
set_option linter.all false
set_option maxRecDepth 100000
set_option maxHeartbeats 4000000
namespace Lw
open PySem PySem.Spec PyProof.Rows L2 Tr
def wPool : List Str := ["a", "aa", "ann", "ask", "b", "bob", "c", "even", "go", "l", "m", "nnnnnnnn", "sit", "y", "z", "zz"]
/-! the words as a dict -/
def prD (p : Str × Str) : D := .tup [.str p.1, .str p.2]
def prK (p : Str × Str) : Key × D := (.inr p.1, .str p.2)
theorem pairs_ok : ∀ ps : List (Str × Str), pairsD (ps.map prD) = some (ps.map prK)
  | [] => rfl
  | p :: ps => by
    have ih := pairs_ok ps
    have e : pairD (prD p) = some (prK p) := rfl
    simp [pairsD, ih, e]
theorem get_cons (k x : Key) (v : D) (r : List (Key × D)) : getG ((k, v) :: r) x = if k = x then some v else getG r x := by
  unfold getG
  by_cases h : k = x <;> simp [List.find?_cons, h]
theorem get_app (x : Key) (v : D) (k : Key) : ∀ r : List (Key × D), getG (r ++ [(k, v)]) x = match getG r x with
    | some d => some d
    | none => if k = x then some v else none
  | [] => by
    rw [List.nil_append, get_cons]
    rfl
  | (k', v') :: r => by
    rw [List.cons_append, get_cons, get_cons, get_app x v k r]
    by_cases h : k' = x <;> simp [h]
theorem get_map (x k : Key) (v : D) : ∀ r : List (Key × D), getG (r.map fun kv => if kv.1 = k then (kv.1, v) else kv) x = if k = x then (getG r x).map (fun _ => v) else getG r x
  | [] => by simp [getG]
  | (k', v') :: r => by
    rw [List.map_cons]
    by_cases h : k' = k
    · rw [if_pos (by exact h), get_cons, get_cons, get_map x k v r]
      subst h
      by_cases h2 : k' = x <;> simp [h2]
    · rw [if_neg (by exact h), get_cons, get_cons, get_map x k v r]
      by_cases h2 : k = x
      · have : k' ≠ x := fun z => h (z.trans h2.symm)
        simp [h2, this]
      · by_cases h3 : k' = x <;> simp [h2, h3]
theorem get_none {x : Key} : ∀ {r : List (Key × D)}, (r.any fun kv => decide (kv.1 = x)) = false → getG r x = none
  | [], _ => rfl
  | (k, v) :: r, h => by
    rw [List.any_cons, Bool.or_eq_false_iff] at h
    rw [get_cons, if_neg (of_decide_eq_false h.1)]
    exact get_none h.2
theorem get_some {x : Key} : ∀ {r : List (Key × D)}, (r.any fun kv => decide (kv.1 = x)) = true → ∃ d, getG r x = some d
  | [], h => by cases h
  | (k, v) :: r, h => by
    rw [List.any_cons, Bool.or_eq_true] at h
    rw [get_cons]
    by_cases hk : k = x
    · exact ⟨v, by rw [if_pos hk]⟩
    · rw [if_neg hk]
      exact get_some (h.resolve_left fun z => hk (of_decide_eq_true z))
theorem get_put (r : List (Key × D)) (k x : Key) (v : D) : getG (putG r k v) x = if k = x then some v else getG r x := by
  unfold putG
  split
  · rename_i h
    rw [get_map]
    by_cases hk : k = x
    · rw [if_pos hk, if_pos hk]
      obtain ⟨d, e⟩ := get_some h
      rw [← hk, e]
      rfl
    · rw [if_neg hk, if_neg hk]
  · rename_i h
    rw [get_app]
    have h' : (r.any fun kv => decide (kv.1 = k)) = false := Bool.eq_false_iff.mpr h
    by_cases hk : k = x
    · rw [if_pos hk, ← hk, get_none h']
      simp
    · rw [if_neg hk]
      cases getG r x <;> simp [hk]
/-- the new word of x by ps -/
def wordOf (ps : List (Str × Str)) (x : Str) : Str := match getG (mergeD (ps.map prK)) (.inr x) with
  | some (.str y) => y
  | _ => x
theorem merge_str : ∀ (ps : List (Str × Str)) (acc : List (Key × D)), (∀ x d, getG acc x = some d → ∃ y, d = .str y) → ∀ x d, getG ((ps.map prK).foldl (fun a p => putG a p.1 p.2) acc) x = some d → ∃ y, d = .str y
  | [], acc, h, x, d, e => h x d e
  | p :: ps, acc, h, x, d, e => merge_str ps (putG acc (prK p).1 (prK p).2) (fun x d e => by
      rw [get_put] at e
      split at e
      · cases e; exact ⟨p.2, rfl⟩
      · exact h x d e) x d e
theorem word_get (ps : List (Str × Str)) (x : Str) : (getG (mergeD (ps.map prK)) (.inr x)).getD (.str x) = .str (wordOf ps x) := by
  unfold wordOf
  cases e : getG (mergeD (ps.map prK)) (.inr x) with
  | none => rfl
  | some d =>
    obtain ⟨y, rfl⟩ := merge_str ps [] (fun x d e => by cases e) _ d e
    rfl
theorem fold_out : ∀ (ps : List (Str × Str)) (acc : List (Key × D)) (x : Str), x ∉ ps.map (·.1) → getG ((ps.map prK).foldl (fun a p => putG a p.1 p.2) acc) (.inr x) = getG acc (.inr x)
  | [], acc, x, _ => rfl
  | p :: ps, acc, x, h => by
    rw [List.map_cons, List.mem_cons, not_or] at h
    show getG ((ps.map prK).foldl _ (putG acc (.inr p.1) (.str p.2))) (.inr x) = _
    rw [fold_out ps _ x h.2, get_put, if_neg (fun z => h.1 (Sum.inr.inj z).symm)]
theorem fold_in : ∀ (ps : List (Str × Str)) (acc : List (Key × D)) (p : Str × Str), (ps.map (·.1)).Nodup → p ∈ ps → getG ((ps.map prK).foldl (fun a p => putG a p.1 p.2) acc) (.inr p.1) = some (.str p.2)
  | [], _, _, _, h => by cases h
  | q :: ps, acc, p, nd, h => by
    rw [List.map_cons, List.nodup_cons] at nd
    show getG ((ps.map prK).foldl _ (putG acc (.inr q.1) (.str q.2))) (.inr p.1) = _
    rcases List.mem_cons.mp h with rfl | h
    · rw [fold_out ps _ _ nd.1, get_put, if_pos rfl]
    · exact fold_in ps _ p nd.2 h
theorem word_in {ps : List (Str × Str)} {p : Str × Str} (nd : (ps.map (·.1)).Nodup) (h : p ∈ ps) : wordOf ps p.1 = p.2 := by
  unfold wordOf mergeD
  rw [fold_in ps [] p nd h]
theorem word_nil (x : Str) : wordOf [] x = x := rfl
/-- the words turned back -/
theorem word_back {es ns : List Str} (hl : es.length = ns.length) (h1 : es.Nodup) (h2 : ns.Nodup) {x : Str} (hx : x ∈ es) : wordOf (ns.zip es) (wordOf (es.zip ns) x) = x ∧ wordOf (es.zip ns) x ∈ ns := by
  obtain ⟨i, hi, rfl⟩ := List.mem_iff_getElem.mp hx
  have hi2 : i < ns.length := by omega
  have m1 : (es[i], ns[i]) ∈ es.zip ns := List.mem_iff_getElem.mpr ⟨i, by simp; omega, by simp⟩
  have m2 : (ns[i], es[i]) ∈ ns.zip es := List.mem_iff_getElem.mpr ⟨i, by simp; omega, by simp⟩
  have z1 : (es.zip ns).map (·.1) = es := by rw [List.map_fst_zip]; omega
  have z2 : (ns.zip es).map (·.1) = ns := by rw [List.map_fst_zip]; omega
  have w1 : wordOf (es.zip ns) es[i] = ns[i] := word_in (p := (es[i], ns[i])) (by rw [z1]; exact h1) m1
  rw [w1]
  exact ⟨word_in (p := (ns[i], es[i])) (by rw [z2]; exact h2) m2, List.getElem_mem hi2⟩
theorem dict_wp {ps : List (Str × Str)} {M : Mem} {Q : D → Mem → Prop} : wpR (gDict [.ktup (ps.map prD)] M) Q = Q (.obj M.length) (M ++ [.dK (mergeD (ps.map prK))]) := by
  simp [gDict, pairs_ok, newO]
/-- d.get(x, x) -/
theorem word_wp {ps : List (Str × Str)} {w : Nat} {x : Str} {M : Mem} {Q : D → Mem → Prop} (h : M[w]? = some (.dK (mergeD (ps.map prK)))) : wpR (gGet (.obj w) [.str x, .str x] M) Q = Q (.str (wordOf ps x)) M := by
  have hg : gGet (.obj w) [.str x, .str x] M = .ok ((getG (mergeD (ps.map prK)) (.inr x)).getD (.str x)) M := by
    simp only [gGet, dGetD, h, Option.bind_some, Tr.dictGet, keyD, Option.map_some]
    cases getG (mergeD (ps.map prK)) (.inr x) <;> rfl
  rw [hg, word_get]
  rfl
theorem ty_dict {w : Nat} {kvs : List (Key × D)} {M : Mem} (h : M[w]? = some (.dK kvs)) : tyD "dict" (.obj w) M = true := by
  simp [tyD, h]
theorem cut_all (xs : List D) (n : Nat) (h : n = xs.length) : Tr.cutD xs none (some (n : Int)) = xs := by
  subst h
  unfold Tr.cutD
  rw [HT.sIx_nat, HT.sIx_none]
  simp
theorem pairs_wp {f c n e : Nat} {cs : List Int} {M : Mem} {Q : D → Mem → Prop} {es : List Str} (h : Feed f c cs M n) (hn : n < 100000) (he : M[e]? = some (.lst (es.map .str))) (hef : e ≠ f) (hl : es.length ≤ 10)
    (q : ∀ (ns : List Str) (M' : Mem), ns.length = es.length → ns.Nodup → (∀ x ∈ ns, x ∈ wPool) → Feed f c cs M' (n + 10) → Ext [f] M M' → Q (.ktup ((es.zip ns).map prD)) M') : wpR (F__law_pairs [.obj f, .obj e, .int es.length] M) Q := by
  unfold F__law_pairs B__law_pairs
  rw [wp_run]
  have e0 := get_push (N := [.lst (wPool.map .str)]) he
  have lf := h.lf
  have le := (List.getElem?_eq_some_iff.mp he).1
  simp only [wp_seq, wp_pass, wp_never, wp_expr, wp_ret, wp_retN, wp_ifS, wp_set, wp_asg, wp_par, wp_par3, wp_var, wp_K, wp_anil, wp_acons, wp_bin, wp_tup, wp_tupK, wp_lst, wp_call, wp_cb, wp_ifE, wp_tOf, wp_tAnd, wp_tOr, wp_tNot, wp_tYes, wp_and, wp_sl, wp_oN, wp_oS, wp_mt, wp_kget, wp_gname, wp_gtup, wp_gnil, wp_gcons, wp_gsub, wpR_ok, wpR_bad, wpR_bind, wpR_no, wpS_ok_nx, wpS_ok_rt, wpS_bad, wp_add, wp_sub, wp_mul, wp_mod, wp_fdiv, wp_pow, wp_lt, wp_le, wp_gt, wp_ge, wp_eqI, wp_neI, wp_eqS, wp_neS, Tr.ix_tup, len_tup, call1, call2, call3, call4, wipeD, startD, tupD, List.map_cons, List.map_nil, List.length_cons, List.length_nil, List.replicate, List.cons_append, List.nil_append, List.getElem?_cons_zero, List.getElem?_cons_succ, List.set_cons_zero, List.set_cons_succ, atI_0, atI_1, atI_2, atI_3, atI_4, atI_5, if_true, Bool.false_eq_true, if_false, lim_0, lim_1, lim_2, lim_3, lim_4, lim_5, true_and, Nat.sub_zero]
  have hpool : [D.str "a", D.str "aa", D.str "ann", D.str "ask", D.str "b", D.str "bob", D.str "c", D.str "even", D.str "go", D.str "l", D.str "m", D.str "nnnnnnnn", D.str "sit", D.str "y", D.str "z", D.str "zz"] = wPool.map .str := by simp [wPool]
  rw [hpool]
  refine ⟨by unfold lim; omega, ?_⟩
  rw [len_obj e0, List.length_map]
  with_reducible refine words_wp2 wPool (h.push _) (by omega) get_new rfl (by omega) (by omega) (by simp [wPool]; omega) (by simp [wPool]) fun ys rest M2 hy pm f2 x2 o2 => ?_
  have l2 := f2.lf
  rw [sort_obj o2 (by omega)]
  have e2 := get_push (N := [.lst ((sortS ys).map .str)]) (x2.get (by simp; omega) e0)
  have x3 : Ext [f] M (M2 ++ [.lst ((sortS ys).map .str)]) := ((Ext.push M _).trans x2 |>.fresh (gs := [f]) (by simp)).trans (Ext.push _ _)
  have f3 := f2.push [.lst ((sortS ys).map .str)]
  have lM2 : M.length < M2.length := by have := x2.1; simp at this; omega
  have s3 : (M2 ++ [.lst ((sortS ys).map .str)])[M2.length]? = some (.lst ((sortS ys).map .str)) := get_new
  generalize M2 ++ [.lst ((sortS ys).map .str)] = M3 at e2 x3 f3 s3 ⊢
  have hsl : (sortS ys).length = es.length := by rw [sortS_len, hy]
  have nd : (sortS ys).Nodup := by
    have z : (ys ++ rest).Nodup := pm.nodup_iff.mpr (by decide +kernel)
    exact (sortS_perm ys).nodup_iff.mpr (List.nodup_append.mp z).1
  have wp : ∀ x ∈ sortS ys, x ∈ wPool := fun x hx => pm.mem_iff.mp (List.mem_append_left _ ((sortS_mem ys).mp hx))
  generalize sortS ys = ns at s3 hsl nd wp
  have hp : M2.length ≠ f := by omega
  generalize M2.length = p at s3 hp ⊢
  have hz : ∀ R : ItD → Mem → Prop, R (itZ (.obj e) (.obj p) es.length) M3 → wpR (Tr.iZip (aCons (eVar 1) (aCons (eVar 4) aNil)) [some (D.obj f), some (D.obj e), some (D.int es.length), some (D.obj M.length), some (D.obj p), none, none, none] M3) R := fun R hR => by
    unfold Tr.iZip
    simp only [wp_seq, wp_pass, wp_never, wp_expr, wp_ret, wp_retN, wp_ifS, wp_set, wp_asg, wp_par, wp_par3, wp_var, wp_K, wp_anil, wp_acons, wp_bin, wp_tup, wp_tupK, wp_lst, wp_call, wp_cb, wp_ifE, wp_tOf, wp_tAnd, wp_tOr, wp_tNot, wp_tYes, wp_and, wp_sl, wp_oN, wp_oS, wp_mt, wp_kget, wp_gname, wp_gtup, wp_gnil, wp_gcons, wp_gsub, wpR_ok, wpR_bad, wpR_bind, wpR_no, wpS_ok_nx, wpS_ok_rt, wpS_bad, wp_add, wp_sub, wp_mul, wp_mod, wp_fdiv, wp_pow, wp_lt, wp_le, wp_gt, wp_ge, wp_eqI, wp_neI, wp_eqS, wp_neS, Tr.ix_tup, len_tup, call1, call2, call3, call4, wipeD, startD, tupD, List.map_cons, List.map_nil, List.length_cons, List.length_nil, List.replicate, List.cons_append, List.nil_append, List.getElem?_cons_zero, List.getElem?_cons_succ, List.set_cons_zero, List.set_cons_succ, atI_0, atI_1, atI_2, atI_3, atI_4, atI_5, if_true, Bool.false_eq_true, if_false, lim_0, lim_1, lim_2, lim_3, lim_4, lim_5, true_and, Nat.sub_zero, seq_obj e2, seq_obj s3, List.length_map]
    exact hR
  with_reducible refine lcI_wp (it := itZ (.obj e) (.obj p) es.length) 0 (fun i => .tup [.str (es.getD i ""), .str (ns.getD i "")]) (fun i acc => acc = ((es.zip ns).take i).map prD) hz f3 (by simp) (by simp only [itZ]; omega) ?_ ?_ ?_
  · intro M' x
    have a1 := x.get (by simpa using hef) e2
    have a2 := x.get (by simpa using hp) s3
    constructor
    · intro i hi
      have hi' : i < es.length := hi
      have hi2 : i < ns.length := by omega
      simp [itZ, seq_obj a1, seq_obj a2, hi', hi2, List.getD]
    · simp [itZ, seq_obj a1, seq_obj a2]
  · intro i acc M' hi hJ hf hx
    have hi' : i < es.length := hi
    have hi2 : i < ns.length := by omega
    simp only [wp_seq, wp_pass, wp_never, wp_expr, wp_ret, wp_retN, wp_ifS, wp_set, wp_asg, wp_par, wp_par3, wp_var, wp_K, wp_anil, wp_acons, wp_bin, wp_tup, wp_tupK, wp_lst, wp_call, wp_cb, wp_ifE, wp_tOf, wp_tAnd, wp_tOr, wp_tNot, wp_tYes, wp_and, wp_sl, wp_oN, wp_oS, wp_mt, wp_kget, wp_gname, wp_gtup, wp_gnil, wp_gcons, wp_gsub, wpR_ok, wpR_bad, wpR_bind, wpR_no, wpS_ok_nx, wpS_ok_rt, wpS_bad, wp_add, wp_sub, wp_mul, wp_mod, wp_fdiv, wp_pow, wp_lt, wp_le, wp_gt, wp_ge, wp_eqI, wp_neI, wp_eqS, wp_neS, Tr.ix_tup, len_tup, call1, call2, call3, call4, wipeD, startD, tupD, List.map_cons, List.map_nil, List.length_cons, List.length_nil, List.replicate, List.cons_append, List.nil_append, List.getElem?_cons_zero, List.getElem?_cons_succ, List.set_cons_zero, List.set_cons_succ, atI_0, atI_1, atI_2, atI_3, atI_4, atI_5, if_true, Bool.false_eq_true, if_false, lim_0, lim_1, lim_2, lim_3, lim_4, lim_5, true_and, Nat.sub_zero]
    refine ⟨?_, hf, Ext.refl _ _⟩
    rw [hJ, List.take_add_one]
    have : (es.zip ns)[i]? = some (es[i], ns[i]) := by simp [List.getElem?_zip_eq_some, hi', hi2]
    simp [this, prD, hi', hi2, List.getD]
  · intro acc M4 hJ _ f4 x4 o4
    have hacc : acc = (es.zip ns).map prD := by
      rw [hJ, List.take_of_length_le]
      show (es.zip ns).length ≤ es.length
      simp
      omega
    have hcl : acc.length = es.length := by rw [hacc]; simp; omega
    have hsl4 : wpR (gSl (.obj M3.length) none (some (es.length : Int)) M4) = fun S => S (.obj M4.length) (M4 ++ [.lst acc]) := by
      funext S
      simp [gSl, seqD, o4, cut_all acc es.length hcl.symm]
    simp only [wp_seq, wp_pass, wp_never, wp_expr, wp_ret, wp_retN, wp_ifS, wp_set, wp_asg, wp_par, wp_par3, wp_var, wp_K, wp_anil, wp_acons, wp_bin, wp_tup, wp_tupK, wp_lst, wp_call, wp_cb, wp_ifE, wp_tOf, wp_tAnd, wp_tOr, wp_tNot, wp_tYes, wp_and, wp_sl, wp_oN, wp_oS, wp_mt, wp_kget, wp_gname, wp_gtup, wp_gnil, wp_gcons, wp_gsub, wpR_ok, wpR_bad, wpR_bind, wpR_no, wpS_ok_nx, wpS_ok_rt, wpS_bad, wp_add, wp_sub, wp_mul, wp_mod, wp_fdiv, wp_pow, wp_lt, wp_le, wp_gt, wp_ge, wp_eqI, wp_neI, wp_eqS, wp_neS, Tr.ix_tup, len_tup, call1, call2, call3, call4, wipeD, startD, tupD, List.map_cons, List.map_nil, List.length_cons, List.length_nil, List.replicate, List.cons_append, List.nil_append, List.getElem?_cons_zero, List.getElem?_cons_succ, List.set_cons_zero, List.set_cons_succ, atI_0, atI_1, atI_2, atI_3, atI_4, atI_5, if_true, Bool.false_eq_true, if_false, lim_0, lim_1, lim_2, lim_3, lim_4, lim_5, true_and, Nat.sub_zero, hsl4, tupK_obj get_new]
    rw [hacc]
    exact q ns _ hsl nd wp ((f4.push _).mono (by show n + es.length + 0 * es.length ≤ n + 10; omega)) (x3.trans (x4.trans (Ext.push _ _)))
end Lw

set_option Elab.async false
set_option linter.all false
set_option maxRecDepth 100000
set_option maxHeartbeats 4000000
namespace Lw
open PySem PySem.Spec PyProof.Rows L2 Tr
def Dd.parts : Dd → List D
  | .dish w i => [.str w, .int i]
  | .change i x => [.str "change", .int i, .str x]
  | .ask i x k ss => [.str "ask", .int i, .str x, .int k, .tup (ss.map .str)]
  | .stove w t k => [.str w, .str t, .int k]
  | .even ss => [.str "even", .tup (ss.map .str)]
  | .pair w a b => [.str w, .str a, .str b]
  | .go a => [.str "go", .str a]
  | .pay a i => [.str "pay", .str a, .int i]
  | .take a b i => [.str "take", .str a, .str b, .int i]
theorem toD_parts (d : Dd) : d.toD = .tup d.parts := by cases d <;> rfl
def Dd.ren (g : Str → Str) : Dd → Dd
  | .dish w i => .dish w i
  | .change i x => .change i x
  | .ask i x k ss => .ask i x k (ss.map g)
  | .stove w t k => .stove w (g t) k
  | .even ss => .even (ss.map g)
  | .pair w a b => .pair w (g a) (g b)
  | .go a => .go (g a)
  | .pay a i => .pay (g a) i
  | .take a b i => .take (g a) (g b) i
section
variable {f c n w : Nat} {cs : List Int} {M : Mem} {Q : D → Mem → Prop} {ps : List (Str × Str)}
/-- [newer.get(one, one) for one in a row of words] -/
theorem row_wp {ss : List Str} {fa : EF} {env : DEnv} {ix jx : Nat} (h : Feed f c cs M n) (hw : M[w]? = some (.dK (mergeD (ps.map prK)))) (hwf : w ≠ f) (hl : ss.length ≤ 4) (he : ∀ R : D → Mem → Prop, R (.tup (ss.map .str)) M → wpR (fa env M) R) (h1 : env[jx]? = some (some (.obj w))) (h2 : ix < env.length) (h3 : ix ≠ jx)
    (q : ∀ M', Feed f c cs M' n → Ext [f] M M' → M'[M.length]? = some (.lst ((ss.map (wordOf ps)).map .str)) → Q (.obj M.length) M') : wpR (eLc (iSeq fa) [ix] (gtName ix) tfYes (eMt "dict" gGet (eVar jx) (aCons (eVar ix) (aCons (eVar ix) aNil))) env M) Q := by
  with_reducible refine lcV_wp (d := .tup (ss.map .str)) (zs := ss.map .str) 0 (fun i acc => acc = ((ss.take i).map (wordOf ps)).map D.str) he (fun _ _ => (by simp only [seqD])) h (by simp) (by rw [List.length_map]; omega) ?_ ?_
  · intro i acc M' hi hJ hf hx
    have hi' : i < ss.length := by simpa using hi
    have w' := hx.get (by simpa using hwf) hw
    have e1 : ((env.set ix none).set ix (some ((ss.map D.str).getD i .non)))[jx]? = some (some (.obj w)) := by
      rw [List.getElem?_set_ne h3, List.getElem?_set_ne h3, h1]
    have e2 : ((env.set ix none).set ix (some ((ss.map D.str).getD i .non)))[ix]? = some (some (.str ss[i])) := by
      rw [List.getElem?_set_self (by simpa using h2)]
      simp [List.getD, hi']
    simp only [wp_gname, wipeD, wp_tYes, if_true, wp_mt, wp_var, wp_acons, wp_anil, e1, e2, ty_dict w', true_and, word_wp w']
    refine ⟨?_, hf, Ext.refl _ _⟩
    rw [hJ, List.take_add_one, List.getElem?_eq_getElem hi', Option.toList_some, List.map_append, List.map_append]
    rfl
  · intro acc M' hJ _ hf hx ho
    refine q M' (hf.mono (by omega)) hx ?_
    rw [ho, hJ, List.take_of_length_le (by rw [List.length_map]; exact Nat.le_refl _)]
theorem thing_core {parts : List D} {i : Nat} {w0 : Str} {A1 A2 : D} {b1 b2 : Bool} (h : Feed f c cs M n) (hw : M[w]? = some (.dK (mergeD (ps.map prK)))) (hwf : w ≠ f) (h0 : parts[0]? = some (.str w0)) (h1 : (ktGet tab_WORDS_AT w0).getD (.tup []) = A1) (h2 : (ktGet tab_ROWS_AT w0).getD (.tup []) = A2)
    (i1 : ∀ M, gIn (.int i) A1 M = .ok (.bl b1) M) (i2 : ∀ M, gIn (.int i) A2 M = .ok (.bl b2) M)
    (q : if b1 = true then (∃ x, parts[i]? = some (.str x) ∧ Q (.str (wordOf ps x)) M) else if b2 = true then (∃ ss : List Str, parts[i]? = some (.tup (ss.map .str)) ∧ ss.length ≤ 4 ∧ ∀ M', Feed f c cs M' n → Ext [f] M M' → Q (.tup ((ss.map (wordOf ps)).map .str)) M') else ∃ x, parts[i]? = some x ∧ Q x M) :
    wpR (F_thing_renamed [.tup parts, .int i, .obj w] M) Q := by
  unfold F_thing_renamed B_thing_renamed
  rw [wp_run]
  simp only [wp_seq, wp_pass, wp_never, wp_expr, wp_ret, wp_retN, wp_ifS, wp_set, wp_asg, wp_par, wp_par3, wp_var, wp_K, wp_anil, wp_acons, wp_bin, wp_tup, wp_tupK, wp_lst, wp_call, wp_cb, wp_ifE, wp_tOf, wp_tAnd, wp_tOr, wp_tNot, wp_tYes, wp_and, wp_sl, wp_oN, wp_oS, wp_mt, wp_kget, wp_gname, wp_gtup, wp_gnil, wp_gcons, wp_gsub, wpR_ok, wpR_bad, wpR_bind, wpR_no, wpS_ok_nx, wpS_ok_rt, wpS_bad, wp_add, wp_sub, wp_mul, wp_mod, wp_fdiv, wp_pow, wp_lt, wp_le, wp_gt, wp_ge, wp_eqI, wp_neI, wp_eqS, wp_neS, Tr.ix_tup, len_tup, call1, call2, call3, call4, wipeD, startD, tupD, List.map_cons, List.map_nil, List.length_cons, List.length_nil, List.replicate, List.cons_append, List.nil_append, List.getElem?_cons_zero, List.getElem?_cons_succ, List.set_cons_zero, List.set_cons_succ, atI_0, atI_1, atI_2, atI_3, atI_4, atI_5, if_true, Bool.false_eq_true, if_false, lim_0, lim_1, lim_2, lim_3, lim_4, lim_5, true_and, Nat.sub_zero, h0, h1, i1]
  cases b1 with
  | true =>
    simp only [if_true] at q ⊢
    obtain ⟨x, e, q⟩ := q
    simp only [wp_seq, wp_pass, wp_never, wp_expr, wp_ret, wp_retN, wp_ifS, wp_set, wp_asg, wp_par, wp_par3, wp_var, wp_K, wp_anil, wp_acons, wp_bin, wp_tup, wp_tupK, wp_lst, wp_call, wp_cb, wp_ifE, wp_tOf, wp_tAnd, wp_tOr, wp_tNot, wp_tYes, wp_and, wp_sl, wp_oN, wp_oS, wp_mt, wp_kget, wp_gname, wp_gtup, wp_gnil, wp_gcons, wp_gsub, wpR_ok, wpR_bad, wpR_bind, wpR_no, wpS_ok_nx, wpS_ok_rt, wpS_bad, wp_add, wp_sub, wp_mul, wp_mod, wp_fdiv, wp_pow, wp_lt, wp_le, wp_gt, wp_ge, wp_eqI, wp_neI, wp_eqS, wp_neS, Tr.ix_tup, len_tup, call1, call2, call3, call4, wipeD, startD, tupD, List.map_cons, List.map_nil, List.length_cons, List.length_nil, List.replicate, List.cons_append, List.nil_append, List.getElem?_cons_zero, List.getElem?_cons_succ, List.set_cons_zero, List.set_cons_succ, atI_0, atI_1, atI_2, atI_3, atI_4, atI_5, if_true, Bool.false_eq_true, if_false, lim_0, lim_1, lim_2, lim_3, lim_4, lim_5, true_and, Nat.sub_zero, ty_dict hw, Tr.atI_nat, e, word_wp hw]
    exact q
  | false =>
    simp only [Bool.false_eq_true, if_false] at q ⊢
    simp only [wp_seq, wp_pass, wp_never, wp_expr, wp_ret, wp_retN, wp_ifS, wp_set, wp_asg, wp_par, wp_par3, wp_var, wp_K, wp_anil, wp_acons, wp_bin, wp_tup, wp_tupK, wp_lst, wp_call, wp_cb, wp_ifE, wp_tOf, wp_tAnd, wp_tOr, wp_tNot, wp_tYes, wp_and, wp_sl, wp_oN, wp_oS, wp_mt, wp_kget, wp_gname, wp_gtup, wp_gnil, wp_gcons, wp_gsub, wpR_ok, wpR_bad, wpR_bind, wpR_no, wpS_ok_nx, wpS_ok_rt, wpS_bad, wp_add, wp_sub, wp_mul, wp_mod, wp_fdiv, wp_pow, wp_lt, wp_le, wp_gt, wp_ge, wp_eqI, wp_neI, wp_eqS, wp_neS, Tr.ix_tup, len_tup, call1, call2, call3, call4, wipeD, startD, tupD, List.map_cons, List.map_nil, List.length_cons, List.length_nil, List.replicate, List.cons_append, List.nil_append, List.getElem?_cons_zero, List.getElem?_cons_succ, List.set_cons_zero, List.set_cons_succ, atI_0, atI_1, atI_2, atI_3, atI_4, atI_5, if_true, Bool.false_eq_true, if_false, lim_0, lim_1, lim_2, lim_3, lim_4, lim_5, true_and, Nat.sub_zero, h0, h2, i2]
    cases b2 with
    | true =>
      simp only [if_true] at q ⊢
      obtain ⟨ss, e, hl, q⟩ := q
      with_reducible refine row_wp (ss := ss) (ps := ps) (w := w) h hw hwf hl (fun R hR => by simp only [wp_seq, wp_pass, wp_never, wp_expr, wp_ret, wp_retN, wp_ifS, wp_set, wp_asg, wp_par, wp_par3, wp_var, wp_K, wp_anil, wp_acons, wp_bin, wp_tup, wp_tupK, wp_lst, wp_call, wp_cb, wp_ifE, wp_tOf, wp_tAnd, wp_tOr, wp_tNot, wp_tYes, wp_and, wp_sl, wp_oN, wp_oS, wp_mt, wp_kget, wp_gname, wp_gtup, wp_gnil, wp_gcons, wp_gsub, wpR_ok, wpR_bad, wpR_bind, wpR_no, wpS_ok_nx, wpS_ok_rt, wpS_bad, wp_add, wp_sub, wp_mul, wp_mod, wp_fdiv, wp_pow, wp_lt, wp_le, wp_gt, wp_ge, wp_eqI, wp_neI, wp_eqS, wp_neS, Tr.ix_tup, len_tup, call1, call2, call3, call4, wipeD, startD, tupD, List.map_cons, List.map_nil, List.length_cons, List.length_nil, List.replicate, List.cons_append, List.nil_append, List.getElem?_cons_zero, List.getElem?_cons_succ, List.set_cons_zero, List.set_cons_succ, atI_0, atI_1, atI_2, atI_3, atI_4, atI_5, if_true, Bool.false_eq_true, if_false, lim_0, lim_1, lim_2, lim_3, lim_4, lim_5, true_and, Nat.sub_zero, Tr.atI_nat, e]; exact hR) (by simp) (by simp) (by omega) fun M' hf hx ho => ?_
      rw [tup_obj ho]
      exact q M' hf hx
    | false =>
      simp only [Bool.false_eq_true, if_false] at q ⊢
      obtain ⟨x, e, q⟩ := q
      simp only [wp_seq, wp_pass, wp_never, wp_expr, wp_ret, wp_retN, wp_ifS, wp_set, wp_asg, wp_par, wp_par3, wp_var, wp_K, wp_anil, wp_acons, wp_bin, wp_tup, wp_tupK, wp_lst, wp_call, wp_cb, wp_ifE, wp_tOf, wp_tAnd, wp_tOr, wp_tNot, wp_tYes, wp_and, wp_sl, wp_oN, wp_oS, wp_mt, wp_kget, wp_gname, wp_gtup, wp_gnil, wp_gcons, wp_gsub, wpR_ok, wpR_bad, wpR_bind, wpR_no, wpS_ok_nx, wpS_ok_rt, wpS_bad, wp_add, wp_sub, wp_mul, wp_mod, wp_fdiv, wp_pow, wp_lt, wp_le, wp_gt, wp_ge, wp_eqI, wp_neI, wp_eqS, wp_neS, Tr.ix_tup, len_tup, call1, call2, call3, call4, wipeD, startD, tupD, List.map_cons, List.map_nil, List.length_cons, List.length_nil, List.replicate, List.cons_append, List.nil_append, List.getElem?_cons_zero, List.getElem?_cons_succ, List.set_cons_zero, List.set_cons_succ, atI_0, atI_1, atI_2, atI_3, atI_4, atI_5, if_true, Bool.false_eq_true, if_false, lim_0, lim_1, lim_2, lim_3, lim_4, lim_5, true_and, Nat.sub_zero, Tr.atI_nat, e]
      exact q
theorem thing_wp {E : List Str} {d : Dd} {i : Nat} {x : D} (hd : d.Good E) (h : Feed f c cs M n) (hw : M[w]? = some (.dK (mergeD (ps.map prK)))) (hwf : w ≠ f) (hx : (d.ren (wordOf ps)).parts[i]? = some x)
    (q : ∀ M', Feed f c cs M' n → Ext [f] M M' → Q x M') : wpR (F_thing_renamed [d.toD, .int i, .obj w] M) Q := by
  rw [toD_parts]
  have q0 := q M h (Ext.refl _ _)
  cases d with
  | dish w j =>
    rcases hd.1 with rfl | rfl | rfl
    · rcases i with _ | _ | i
      · simp only [Dd.ren, Dd.parts, List.getElem?_cons_zero, List.getElem?_cons_succ, Option.some.injEq] at hx
        subst hx
        exact thing_core (i := 0) (w0 := "serve") (A1 := .tup []) (A2 := .tup []) (b1 := false) (b2 := false) h hw hwf rfl (by kernel_rfl) (by kernel_rfl) (fun _ => by kernel_rfl) (fun _ => by kernel_rfl) (by simp only [if_true, Bool.false_eq_true, if_false]; exact ⟨_, rfl, q0⟩)
      · simp only [Dd.ren, Dd.parts, List.getElem?_cons_zero, List.getElem?_cons_succ, Option.some.injEq] at hx
        subst hx
        exact thing_core (i := 1) (w0 := "serve") (A1 := .tup []) (A2 := .tup []) (b1 := false) (b2 := false) h hw hwf rfl (by kernel_rfl) (by kernel_rfl) (fun _ => by kernel_rfl) (fun _ => by kernel_rfl) (by simp only [if_true, Bool.false_eq_true, if_false]; exact ⟨_, rfl, q0⟩)
      · simp [Dd.ren, Dd.parts] at hx
    · rcases i with _ | _ | i
      · simp only [Dd.ren, Dd.parts, List.getElem?_cons_zero, List.getElem?_cons_succ, Option.some.injEq] at hx
        subst hx
        exact thing_core (i := 0) (w0 := "back") (A1 := .tup []) (A2 := .tup []) (b1 := false) (b2 := false) h hw hwf rfl (by kernel_rfl) (by kernel_rfl) (fun _ => by kernel_rfl) (fun _ => by kernel_rfl) (by simp only [if_true, Bool.false_eq_true, if_false]; exact ⟨_, rfl, q0⟩)
      · simp only [Dd.ren, Dd.parts, List.getElem?_cons_zero, List.getElem?_cons_succ, Option.some.injEq] at hx
        subst hx
        exact thing_core (i := 1) (w0 := "back") (A1 := .tup []) (A2 := .tup []) (b1 := false) (b2 := false) h hw hwf rfl (by kernel_rfl) (by kernel_rfl) (fun _ => by kernel_rfl) (fun _ => by kernel_rfl) (by simp only [if_true, Bool.false_eq_true, if_false]; exact ⟨_, rfl, q0⟩)
      · simp [Dd.ren, Dd.parts] at hx
    · rcases i with _ | _ | i
      · simp only [Dd.ren, Dd.parts, List.getElem?_cons_zero, List.getElem?_cons_succ, Option.some.injEq] at hx
        subst hx
        exact thing_core (i := 0) (w0 := "strike") (A1 := .tup []) (A2 := .tup []) (b1 := false) (b2 := false) h hw hwf rfl (by kernel_rfl) (by kernel_rfl) (fun _ => by kernel_rfl) (fun _ => by kernel_rfl) (by simp only [if_true, Bool.false_eq_true, if_false]; exact ⟨_, rfl, q0⟩)
      · simp only [Dd.ren, Dd.parts, List.getElem?_cons_zero, List.getElem?_cons_succ, Option.some.injEq] at hx
        subst hx
        exact thing_core (i := 1) (w0 := "strike") (A1 := .tup []) (A2 := .tup []) (b1 := false) (b2 := false) h hw hwf rfl (by kernel_rfl) (by kernel_rfl) (fun _ => by kernel_rfl) (fun _ => by kernel_rfl) (by simp only [if_true, Bool.false_eq_true, if_false]; exact ⟨_, rfl, q0⟩)
      · simp [Dd.ren, Dd.parts] at hx
  | change j x =>
    rcases i with _ | _ | _ | i
    · simp only [Dd.ren, Dd.parts, List.getElem?_cons_zero, List.getElem?_cons_succ, Option.some.injEq] at hx
      subst hx
      exact thing_core (i := 0) (w0 := "change") (A1 := .tup []) (A2 := .tup []) (b1 := false) (b2 := false) h hw hwf rfl (by kernel_rfl) (by kernel_rfl) (fun _ => by kernel_rfl) (fun _ => by kernel_rfl) (by simp only [if_true, Bool.false_eq_true, if_false]; exact ⟨_, rfl, q0⟩)
    · simp only [Dd.ren, Dd.parts, List.getElem?_cons_zero, List.getElem?_cons_succ, Option.some.injEq] at hx
      subst hx
      exact thing_core (i := 1) (w0 := "change") (A1 := .tup []) (A2 := .tup []) (b1 := false) (b2 := false) h hw hwf rfl (by kernel_rfl) (by kernel_rfl) (fun _ => by kernel_rfl) (fun _ => by kernel_rfl) (by simp only [if_true, Bool.false_eq_true, if_false]; exact ⟨_, rfl, q0⟩)
    · simp only [Dd.ren, Dd.parts, List.getElem?_cons_zero, List.getElem?_cons_succ, Option.some.injEq] at hx
      subst hx
      exact thing_core (i := 2) (w0 := "change") (A1 := .tup []) (A2 := .tup []) (b1 := false) (b2 := false) h hw hwf rfl (by kernel_rfl) (by kernel_rfl) (fun _ => by kernel_rfl) (fun _ => by kernel_rfl) (by simp only [if_true, Bool.false_eq_true, if_false]; exact ⟨_, rfl, q0⟩)
    · simp [Dd.ren, Dd.parts] at hx
  | ask j x k ss =>
    rcases i with _ | _ | _ | _ | _ | i
    · simp only [Dd.ren, Dd.parts, List.getElem?_cons_zero, List.getElem?_cons_succ, Option.some.injEq] at hx
      subst hx
      exact thing_core (i := 0) (w0 := "ask") (A1 := .tup []) (A2 := .ktup [.int 4]) (b1 := false) (b2 := false) h hw hwf rfl (by kernel_rfl) (by kernel_rfl) (fun _ => by kernel_rfl) (fun _ => by kernel_rfl) (by simp only [if_true, Bool.false_eq_true, if_false]; exact ⟨_, rfl, q0⟩)
    · simp only [Dd.ren, Dd.parts, List.getElem?_cons_zero, List.getElem?_cons_succ, Option.some.injEq] at hx
      subst hx
      exact thing_core (i := 1) (w0 := "ask") (A1 := .tup []) (A2 := .ktup [.int 4]) (b1 := false) (b2 := false) h hw hwf rfl (by kernel_rfl) (by kernel_rfl) (fun _ => by kernel_rfl) (fun _ => by kernel_rfl) (by simp only [if_true, Bool.false_eq_true, if_false]; exact ⟨_, rfl, q0⟩)
    · simp only [Dd.ren, Dd.parts, List.getElem?_cons_zero, List.getElem?_cons_succ, Option.some.injEq] at hx
      subst hx
      exact thing_core (i := 2) (w0 := "ask") (A1 := .tup []) (A2 := .ktup [.int 4]) (b1 := false) (b2 := false) h hw hwf rfl (by kernel_rfl) (by kernel_rfl) (fun _ => by kernel_rfl) (fun _ => by kernel_rfl) (by simp only [if_true, Bool.false_eq_true, if_false]; exact ⟨_, rfl, q0⟩)
    · simp only [Dd.ren, Dd.parts, List.getElem?_cons_zero, List.getElem?_cons_succ, Option.some.injEq] at hx
      subst hx
      exact thing_core (i := 3) (w0 := "ask") (A1 := .tup []) (A2 := .ktup [.int 4]) (b1 := false) (b2 := false) h hw hwf rfl (by kernel_rfl) (by kernel_rfl) (fun _ => by kernel_rfl) (fun _ => by kernel_rfl) (by simp only [if_true, Bool.false_eq_true, if_false]; exact ⟨_, rfl, q0⟩)
    · simp only [Dd.ren, Dd.parts, List.getElem?_cons_zero, List.getElem?_cons_succ, Option.some.injEq] at hx
      subst hx
      exact thing_core (i := 4) (w0 := "ask") (A1 := .tup []) (A2 := .ktup [.int 4]) (b1 := false) (b2 := true) h hw hwf rfl (by kernel_rfl) (by kernel_rfl) (fun _ => by kernel_rfl) (fun _ => by kernel_rfl) (by simp only [if_true, Bool.false_eq_true, if_false]; exact ⟨ss, rfl, hd.2.2.2.1, q⟩)
    · simp [Dd.ren, Dd.parts] at hx
  | stove w t k =>
    rcases hd.1 with rfl | rfl
    · rcases i with _ | _ | _ | i
      · simp only [Dd.ren, Dd.parts, List.getElem?_cons_zero, List.getElem?_cons_succ, Option.some.injEq] at hx
        subst hx
        exact thing_core (i := 0) (w0 := "fire") (A1 := .ktup [.int 1]) (A2 := .tup []) (b1 := false) (b2 := false) h hw hwf rfl (by kernel_rfl) (by kernel_rfl) (fun _ => by kernel_rfl) (fun _ => by kernel_rfl) (by simp only [if_true, Bool.false_eq_true, if_false]; exact ⟨_, rfl, q0⟩)
      · simp only [Dd.ren, Dd.parts, List.getElem?_cons_zero, List.getElem?_cons_succ, Option.some.injEq] at hx
        subst hx
        exact thing_core (i := 1) (w0 := "fire") (A1 := .ktup [.int 1]) (A2 := .tup []) (b1 := true) (b2 := false) h hw hwf rfl (by kernel_rfl) (by kernel_rfl) (fun _ => by kernel_rfl) (fun _ => by kernel_rfl) (by simp only [if_true, Bool.false_eq_true, if_false]; exact ⟨_, rfl, q0⟩)
      · simp only [Dd.ren, Dd.parts, List.getElem?_cons_zero, List.getElem?_cons_succ, Option.some.injEq] at hx
        subst hx
        exact thing_core (i := 2) (w0 := "fire") (A1 := .ktup [.int 1]) (A2 := .tup []) (b1 := false) (b2 := false) h hw hwf rfl (by kernel_rfl) (by kernel_rfl) (fun _ => by kernel_rfl) (fun _ => by kernel_rfl) (by simp only [if_true, Bool.false_eq_true, if_false]; exact ⟨_, rfl, q0⟩)
      · simp [Dd.ren, Dd.parts] at hx
    · rcases i with _ | _ | _ | i
      · simp only [Dd.ren, Dd.parts, List.getElem?_cons_zero, List.getElem?_cons_succ, Option.some.injEq] at hx
        subst hx
        exact thing_core (i := 0) (w0 := "rush") (A1 := .ktup [.int 1]) (A2 := .tup []) (b1 := false) (b2 := false) h hw hwf rfl (by kernel_rfl) (by kernel_rfl) (fun _ => by kernel_rfl) (fun _ => by kernel_rfl) (by simp only [if_true, Bool.false_eq_true, if_false]; exact ⟨_, rfl, q0⟩)
      · simp only [Dd.ren, Dd.parts, List.getElem?_cons_zero, List.getElem?_cons_succ, Option.some.injEq] at hx
        subst hx
        exact thing_core (i := 1) (w0 := "rush") (A1 := .ktup [.int 1]) (A2 := .tup []) (b1 := true) (b2 := false) h hw hwf rfl (by kernel_rfl) (by kernel_rfl) (fun _ => by kernel_rfl) (fun _ => by kernel_rfl) (by simp only [if_true, Bool.false_eq_true, if_false]; exact ⟨_, rfl, q0⟩)
      · simp only [Dd.ren, Dd.parts, List.getElem?_cons_zero, List.getElem?_cons_succ, Option.some.injEq] at hx
        subst hx
        exact thing_core (i := 2) (w0 := "rush") (A1 := .ktup [.int 1]) (A2 := .tup []) (b1 := false) (b2 := false) h hw hwf rfl (by kernel_rfl) (by kernel_rfl) (fun _ => by kernel_rfl) (fun _ => by kernel_rfl) (by simp only [if_true, Bool.false_eq_true, if_false]; exact ⟨_, rfl, q0⟩)
      · simp [Dd.ren, Dd.parts] at hx
  | even ss =>
    rcases i with _ | _ | i
    · simp only [Dd.ren, Dd.parts, List.getElem?_cons_zero, List.getElem?_cons_succ, Option.some.injEq] at hx
      subst hx
      exact thing_core (i := 0) (w0 := "even") (A1 := .tup []) (A2 := .ktup [.int 1]) (b1 := false) (b2 := false) h hw hwf rfl (by kernel_rfl) (by kernel_rfl) (fun _ => by kernel_rfl) (fun _ => by kernel_rfl) (by simp only [if_true, Bool.false_eq_true, if_false]; exact ⟨_, rfl, q0⟩)
    · simp only [Dd.ren, Dd.parts, List.getElem?_cons_zero, List.getElem?_cons_succ, Option.some.injEq] at hx
      subst hx
      exact thing_core (i := 1) (w0 := "even") (A1 := .tup []) (A2 := .ktup [.int 1]) (b1 := false) (b2 := true) h hw hwf rfl (by kernel_rfl) (by kernel_rfl) (fun _ => by kernel_rfl) (fun _ => by kernel_rfl) (by simp only [if_true, Bool.false_eq_true, if_false]; exact ⟨ss, rfl, hd.1, q⟩)
    · simp [Dd.ren, Dd.parts] at hx
  | pair w a b =>
    rcases hd.1 with rfl | rfl | rfl
    · rcases i with _ | _ | _ | i
      · simp only [Dd.ren, Dd.parts, List.getElem?_cons_zero, List.getElem?_cons_succ, Option.some.injEq] at hx
        subst hx
        exact thing_core (i := 0) (w0 := "sit") (A1 := .ktup [.int 1, .int 2]) (A2 := .tup []) (b1 := false) (b2 := false) h hw hwf rfl (by kernel_rfl) (by kernel_rfl) (fun _ => by kernel_rfl) (fun _ => by kernel_rfl) (by simp only [if_true, Bool.false_eq_true, if_false]; exact ⟨_, rfl, q0⟩)
      · simp only [Dd.ren, Dd.parts, List.getElem?_cons_zero, List.getElem?_cons_succ, Option.some.injEq] at hx
        subst hx
        exact thing_core (i := 1) (w0 := "sit") (A1 := .ktup [.int 1, .int 2]) (A2 := .tup []) (b1 := true) (b2 := false) h hw hwf rfl (by kernel_rfl) (by kernel_rfl) (fun _ => by kernel_rfl) (fun _ => by kernel_rfl) (by simp only [if_true, Bool.false_eq_true, if_false]; exact ⟨_, rfl, q0⟩)
      · simp only [Dd.ren, Dd.parts, List.getElem?_cons_zero, List.getElem?_cons_succ, Option.some.injEq] at hx
        subst hx
        exact thing_core (i := 2) (w0 := "sit") (A1 := .ktup [.int 1, .int 2]) (A2 := .tup []) (b1 := true) (b2 := false) h hw hwf rfl (by kernel_rfl) (by kernel_rfl) (fun _ => by kernel_rfl) (fun _ => by kernel_rfl) (by simp only [if_true, Bool.false_eq_true, if_false]; exact ⟨_, rfl, q0⟩)
      · simp [Dd.ren, Dd.parts] at hx
    · rcases i with _ | _ | _ | i
      · simp only [Dd.ren, Dd.parts, List.getElem?_cons_zero, List.getElem?_cons_succ, Option.some.injEq] at hx
        subst hx
        exact thing_core (i := 0) (w0 := "move") (A1 := .ktup [.int 1, .int 2]) (A2 := .tup []) (b1 := false) (b2 := false) h hw hwf rfl (by kernel_rfl) (by kernel_rfl) (fun _ => by kernel_rfl) (fun _ => by kernel_rfl) (by simp only [if_true, Bool.false_eq_true, if_false]; exact ⟨_, rfl, q0⟩)
      · simp only [Dd.ren, Dd.parts, List.getElem?_cons_zero, List.getElem?_cons_succ, Option.some.injEq] at hx
        subst hx
        exact thing_core (i := 1) (w0 := "move") (A1 := .ktup [.int 1, .int 2]) (A2 := .tup []) (b1 := true) (b2 := false) h hw hwf rfl (by kernel_rfl) (by kernel_rfl) (fun _ => by kernel_rfl) (fun _ => by kernel_rfl) (by simp only [if_true, Bool.false_eq_true, if_false]; exact ⟨_, rfl, q0⟩)
      · simp only [Dd.ren, Dd.parts, List.getElem?_cons_zero, List.getElem?_cons_succ, Option.some.injEq] at hx
        subst hx
        exact thing_core (i := 2) (w0 := "move") (A1 := .ktup [.int 1, .int 2]) (A2 := .tup []) (b1 := true) (b2 := false) h hw hwf rfl (by kernel_rfl) (by kernel_rfl) (fun _ => by kernel_rfl) (fun _ => by kernel_rfl) (by simp only [if_true, Bool.false_eq_true, if_false]; exact ⟨_, rfl, q0⟩)
      · simp [Dd.ren, Dd.parts] at hx
    · rcases i with _ | _ | _ | i
      · simp only [Dd.ren, Dd.parts, List.getElem?_cons_zero, List.getElem?_cons_succ, Option.some.injEq] at hx
        subst hx
        exact thing_core (i := 0) (w0 := "join") (A1 := .ktup [.int 1, .int 2]) (A2 := .tup []) (b1 := false) (b2 := false) h hw hwf rfl (by kernel_rfl) (by kernel_rfl) (fun _ => by kernel_rfl) (fun _ => by kernel_rfl) (by simp only [if_true, Bool.false_eq_true, if_false]; exact ⟨_, rfl, q0⟩)
      · simp only [Dd.ren, Dd.parts, List.getElem?_cons_zero, List.getElem?_cons_succ, Option.some.injEq] at hx
        subst hx
        exact thing_core (i := 1) (w0 := "join") (A1 := .ktup [.int 1, .int 2]) (A2 := .tup []) (b1 := true) (b2 := false) h hw hwf rfl (by kernel_rfl) (by kernel_rfl) (fun _ => by kernel_rfl) (fun _ => by kernel_rfl) (by simp only [if_true, Bool.false_eq_true, if_false]; exact ⟨_, rfl, q0⟩)
      · simp only [Dd.ren, Dd.parts, List.getElem?_cons_zero, List.getElem?_cons_succ, Option.some.injEq] at hx
        subst hx
        exact thing_core (i := 2) (w0 := "join") (A1 := .ktup [.int 1, .int 2]) (A2 := .tup []) (b1 := true) (b2 := false) h hw hwf rfl (by kernel_rfl) (by kernel_rfl) (fun _ => by kernel_rfl) (fun _ => by kernel_rfl) (by simp only [if_true, Bool.false_eq_true, if_false]; exact ⟨_, rfl, q0⟩)
      · simp [Dd.ren, Dd.parts] at hx
  | go a =>
    rcases i with _ | _ | i
    · simp only [Dd.ren, Dd.parts, List.getElem?_cons_zero, List.getElem?_cons_succ, Option.some.injEq] at hx
      subst hx
      exact thing_core (i := 0) (w0 := "go") (A1 := .ktup [.int 1]) (A2 := .tup []) (b1 := false) (b2 := false) h hw hwf rfl (by kernel_rfl) (by kernel_rfl) (fun _ => by kernel_rfl) (fun _ => by kernel_rfl) (by simp only [if_true, Bool.false_eq_true, if_false]; exact ⟨_, rfl, q0⟩)
    · simp only [Dd.ren, Dd.parts, List.getElem?_cons_zero, List.getElem?_cons_succ, Option.some.injEq] at hx
      subst hx
      exact thing_core (i := 1) (w0 := "go") (A1 := .ktup [.int 1]) (A2 := .tup []) (b1 := true) (b2 := false) h hw hwf rfl (by kernel_rfl) (by kernel_rfl) (fun _ => by kernel_rfl) (fun _ => by kernel_rfl) (by simp only [if_true, Bool.false_eq_true, if_false]; exact ⟨_, rfl, q0⟩)
    · simp [Dd.ren, Dd.parts] at hx
  | pay a j =>
    rcases i with _ | _ | _ | i
    · simp only [Dd.ren, Dd.parts, List.getElem?_cons_zero, List.getElem?_cons_succ, Option.some.injEq] at hx
      subst hx
      exact thing_core (i := 0) (w0 := "pay") (A1 := .ktup [.int 1]) (A2 := .tup []) (b1 := false) (b2 := false) h hw hwf rfl (by kernel_rfl) (by kernel_rfl) (fun _ => by kernel_rfl) (fun _ => by kernel_rfl) (by simp only [if_true, Bool.false_eq_true, if_false]; exact ⟨_, rfl, q0⟩)
    · simp only [Dd.ren, Dd.parts, List.getElem?_cons_zero, List.getElem?_cons_succ, Option.some.injEq] at hx
      subst hx
      exact thing_core (i := 1) (w0 := "pay") (A1 := .ktup [.int 1]) (A2 := .tup []) (b1 := true) (b2 := false) h hw hwf rfl (by kernel_rfl) (by kernel_rfl) (fun _ => by kernel_rfl) (fun _ => by kernel_rfl) (by simp only [if_true, Bool.false_eq_true, if_false]; exact ⟨_, rfl, q0⟩)
    · simp only [Dd.ren, Dd.parts, List.getElem?_cons_zero, List.getElem?_cons_succ, Option.some.injEq] at hx
      subst hx
      exact thing_core (i := 2) (w0 := "pay") (A1 := .ktup [.int 1]) (A2 := .tup []) (b1 := false) (b2 := false) h hw hwf rfl (by kernel_rfl) (by kernel_rfl) (fun _ => by kernel_rfl) (fun _ => by kernel_rfl) (by simp only [if_true, Bool.false_eq_true, if_false]; exact ⟨_, rfl, q0⟩)
    · simp [Dd.ren, Dd.parts] at hx
  | take a b j =>
    rcases i with _ | _ | _ | _ | i
    · simp only [Dd.ren, Dd.parts, List.getElem?_cons_zero, List.getElem?_cons_succ, Option.some.injEq] at hx
      subst hx
      exact thing_core (i := 0) (w0 := "take") (A1 := .ktup [.int 1, .int 2]) (A2 := .tup []) (b1 := false) (b2 := false) h hw hwf rfl (by kernel_rfl) (by kernel_rfl) (fun _ => by kernel_rfl) (fun _ => by kernel_rfl) (by simp only [if_true, Bool.false_eq_true, if_false]; exact ⟨_, rfl, q0⟩)
    · simp only [Dd.ren, Dd.parts, List.getElem?_cons_zero, List.getElem?_cons_succ, Option.some.injEq] at hx
      subst hx
      exact thing_core (i := 1) (w0 := "take") (A1 := .ktup [.int 1, .int 2]) (A2 := .tup []) (b1 := true) (b2 := false) h hw hwf rfl (by kernel_rfl) (by kernel_rfl) (fun _ => by kernel_rfl) (fun _ => by kernel_rfl) (by simp only [if_true, Bool.false_eq_true, if_false]; exact ⟨_, rfl, q0⟩)
    · simp only [Dd.ren, Dd.parts, List.getElem?_cons_zero, List.getElem?_cons_succ, Option.some.injEq] at hx
      subst hx
      exact thing_core (i := 2) (w0 := "take") (A1 := .ktup [.int 1, .int 2]) (A2 := .tup []) (b1 := true) (b2 := false) h hw hwf rfl (by kernel_rfl) (by kernel_rfl) (fun _ => by kernel_rfl) (fun _ => by kernel_rfl) (by simp only [if_true, Bool.false_eq_true, if_false]; exact ⟨_, rfl, q0⟩)
    · simp only [Dd.ren, Dd.parts, List.getElem?_cons_zero, List.getElem?_cons_succ, Option.some.injEq] at hx
      subst hx
      exact thing_core (i := 3) (w0 := "take") (A1 := .ktup [.int 1, .int 2]) (A2 := .tup []) (b1 := false) (b2 := false) h hw hwf rfl (by kernel_rfl) (by kernel_rfl) (fun _ => by kernel_rfl) (fun _ => by kernel_rfl) (by simp only [if_true, Bool.false_eq_true, if_false]; exact ⟨_, rfl, q0⟩)
    · simp [Dd.ren, Dd.parts] at hx
end
end Lw

set_option Elab.async false
set_option linter.all false
set_option maxRecDepth 100000
set_option maxHeartbeats 4000000
namespace Lw
open PySem PySem.Spec PyProof.Rows L2 Tr
section
variable {f c n w : Nat} {cs : List Int} {M : Mem} {Q : D → Mem → Prop} {ps : List (Str × Str)}
theorem by_core {parts : List D} {w0 : Str} {b1 b2 b3 b4 b5 : Bool} (h : Feed f c cs M n) (hw : M[w]? = some (.dK (mergeD (ps.map prK)))) (hwf : w ≠ f) (hl : parts.length ≤ 5) (h0 : parts[0]? = some (.str w0))
    (i1 : ∀ M, gIn (.str w0) (.tup [.str "sit", .str "move", .str "join"]) M = .ok (.bl b1) M) (e2 : decide (w0 = ("take" : Str)) = b2) (i3 : ∀ M, gIn (.str w0) (.tup [.str "go", .str "pay", .str "fire", .str "rush"]) M = .ok (.bl b3) M) (e4 : decide (w0 = ("even" : Str)) = b4) (e5 : decide (w0 = ("ask" : Str)) = b5)
    (q : if b1 = true then (∃ x y, parts[1]? = some (.str x) ∧ parts[2]? = some (.str y) ∧ Q (.tup [.str w0, .str (wordOf ps x), .str (wordOf ps y)]) M) else if b2 = true then (∃ x y z, parts[1]? = some (.str x) ∧ parts[2]? = some (.str y) ∧ parts[3]? = some z ∧ Q (.tup [.str "take", .str (wordOf ps x), .str (wordOf ps y), z]) M)
      else if b3 = true then (∃ x, parts[1]? = some (.str x) ∧ Q (.tup ([.str w0, .str (wordOf ps x)] ++ Tr.cutD parts (some 2) none)) M) else if b4 = true then (∃ ss : List Str, parts[1]? = some (.tup (ss.map .str)) ∧ ss.length ≤ 4 ∧ ∀ M', Feed f c cs M' n → Ext [f] M M' → Q (.tup [.str "even", .tup ((ss.map (wordOf ps)).map .str)]) M')
      else if b5 = true then (∃ ss : List Str, parts[4]? = some (.tup (ss.map .str)) ∧ ss.length ≤ 4 ∧ ∀ M', Feed f c cs M' n → Ext [f] M M' → Q (.tup (Tr.cutD parts none (some 4) ++ [.tup ((ss.map (wordOf ps)).map .str)])) M') else Q (.tup parts) M) :
    wpR (F__law_deed_by [.tup parts, .obj w] M) Q := by
  have cut2 : ∀ M' (S : D → Mem → Prop), wpR (gSl (.tup parts) (some 2) none M') S = S (.tup (Tr.cutD parts (some 2) none)) M' := fun _ _ => rfl
  have cut4 : ∀ M' (S : D → Mem → Prop), wpR (gSl (.tup parts) none (some 4) M') S = S (.tup (Tr.cutD parts none (some 4))) M' := fun _ _ => rfl
  have app : ∀ (xs ys : List D) M' (S : D → Mem → Prop), xs.length + ys.length ≤ 20 → wpR (gAdd (.tup xs) (.tup ys) M') S = S (.tup (xs ++ ys)) M' := fun xs ys M' S hh => by
    have : xs.length + ys.length ≤ lim := by unfold lim; omega
    simp only [gAdd, if_pos this, wpR_ok]
  have cl : ∀ lo hi, (Tr.cutD parts lo hi).length ≤ 5 := fun lo hi => by
    unfold Tr.cutD
    rw [List.length_take, List.length_drop]
    omega
  unfold F__law_deed_by B__law_deed_by
  rw [wp_run]
  simp only [wp_seq, wp_pass, wp_never, wp_expr, wp_ret, wp_retN, wp_ifS, wp_set, wp_asg, wp_par, wp_par3, wp_var, wp_K, wp_anil, wp_acons, wp_bin, wp_tup, wp_tupK, wp_lst, wp_call, wp_cb, wp_ifE, wp_tOf, wp_tAnd, wp_tOr, wp_tNot, wp_tYes, wp_and, wp_sl, wp_oN, wp_oS, wp_mt, wp_kget, wp_gname, wp_gtup, wp_gnil, wp_gcons, wp_gsub, wpR_ok, wpR_bad, wpR_bind, wpR_no, wpS_ok_nx, wpS_ok_rt, wpS_bad, wp_add, wp_sub, wp_mul, wp_mod, wp_fdiv, wp_pow, wp_lt, wp_le, wp_gt, wp_ge, wp_eqI, wp_neI, wp_eqS, wp_neS, Tr.ix_tup, len_tup, call1, call2, call3, call4, wipeD, startD, tupD, List.map_cons, List.map_nil, List.length_cons, List.length_nil, List.replicate, List.cons_append, List.nil_append, List.getElem?_cons_zero, List.getElem?_cons_succ, List.set_cons_zero, List.set_cons_succ, atI_0, atI_1, atI_2, atI_3, atI_4, atI_5, if_true, Bool.false_eq_true, if_false, lim_0, lim_1, lim_2, lim_3, lim_4, lim_5, true_and, Nat.sub_zero, h0, i1]
  cases b1 with
  | true =>
    simp only [if_true] at q ⊢
    obtain ⟨x, y, p1, p2, q⟩ := q
    simp only [wp_seq, wp_pass, wp_never, wp_expr, wp_ret, wp_retN, wp_ifS, wp_set, wp_asg, wp_par, wp_par3, wp_var, wp_K, wp_anil, wp_acons, wp_bin, wp_tup, wp_tupK, wp_lst, wp_call, wp_cb, wp_ifE, wp_tOf, wp_tAnd, wp_tOr, wp_tNot, wp_tYes, wp_and, wp_sl, wp_oN, wp_oS, wp_mt, wp_kget, wp_gname, wp_gtup, wp_gnil, wp_gcons, wp_gsub, wpR_ok, wpR_bad, wpR_bind, wpR_no, wpS_ok_nx, wpS_ok_rt, wpS_bad, wp_add, wp_sub, wp_mul, wp_mod, wp_fdiv, wp_pow, wp_lt, wp_le, wp_gt, wp_ge, wp_eqI, wp_neI, wp_eqS, wp_neS, Tr.ix_tup, len_tup, call1, call2, call3, call4, wipeD, startD, tupD, List.map_cons, List.map_nil, List.length_cons, List.length_nil, List.replicate, List.cons_append, List.nil_append, List.getElem?_cons_zero, List.getElem?_cons_succ, List.set_cons_zero, List.set_cons_succ, atI_0, atI_1, atI_2, atI_3, atI_4, atI_5, if_true, Bool.false_eq_true, if_false, lim_0, lim_1, lim_2, lim_3, lim_4, lim_5, true_and, Nat.sub_zero, h0, ty_dict hw, p1, p2, word_wp hw]
    exact q
  | false =>
    simp only [Bool.false_eq_true, if_false] at q ⊢
    simp only [wp_seq, wp_pass, wp_never, wp_expr, wp_ret, wp_retN, wp_ifS, wp_set, wp_asg, wp_par, wp_par3, wp_var, wp_K, wp_anil, wp_acons, wp_bin, wp_tup, wp_tupK, wp_lst, wp_call, wp_cb, wp_ifE, wp_tOf, wp_tAnd, wp_tOr, wp_tNot, wp_tYes, wp_and, wp_sl, wp_oN, wp_oS, wp_mt, wp_kget, wp_gname, wp_gtup, wp_gnil, wp_gcons, wp_gsub, wpR_ok, wpR_bad, wpR_bind, wpR_no, wpS_ok_nx, wpS_ok_rt, wpS_bad, wp_add, wp_sub, wp_mul, wp_mod, wp_fdiv, wp_pow, wp_lt, wp_le, wp_gt, wp_ge, wp_eqI, wp_neI, wp_eqS, wp_neS, Tr.ix_tup, len_tup, call1, call2, call3, call4, wipeD, startD, tupD, List.map_cons, List.map_nil, List.length_cons, List.length_nil, List.replicate, List.cons_append, List.nil_append, List.getElem?_cons_zero, List.getElem?_cons_succ, List.set_cons_zero, List.set_cons_succ, atI_0, atI_1, atI_2, atI_3, atI_4, atI_5, if_true, Bool.false_eq_true, if_false, lim_0, lim_1, lim_2, lim_3, lim_4, lim_5, true_and, Nat.sub_zero, h0, e2]
    cases b2 with
    | true =>
      simp only [if_true] at q ⊢
      obtain ⟨x, y, z, p1, p2, p3, q⟩ := q
      simp only [wp_seq, wp_pass, wp_never, wp_expr, wp_ret, wp_retN, wp_ifS, wp_set, wp_asg, wp_par, wp_par3, wp_var, wp_K, wp_anil, wp_acons, wp_bin, wp_tup, wp_tupK, wp_lst, wp_call, wp_cb, wp_ifE, wp_tOf, wp_tAnd, wp_tOr, wp_tNot, wp_tYes, wp_and, wp_sl, wp_oN, wp_oS, wp_mt, wp_kget, wp_gname, wp_gtup, wp_gnil, wp_gcons, wp_gsub, wpR_ok, wpR_bad, wpR_bind, wpR_no, wpS_ok_nx, wpS_ok_rt, wpS_bad, wp_add, wp_sub, wp_mul, wp_mod, wp_fdiv, wp_pow, wp_lt, wp_le, wp_gt, wp_ge, wp_eqI, wp_neI, wp_eqS, wp_neS, Tr.ix_tup, len_tup, call1, call2, call3, call4, wipeD, startD, tupD, List.map_cons, List.map_nil, List.length_cons, List.length_nil, List.replicate, List.cons_append, List.nil_append, List.getElem?_cons_zero, List.getElem?_cons_succ, List.set_cons_zero, List.set_cons_succ, atI_0, atI_1, atI_2, atI_3, atI_4, atI_5, if_true, Bool.false_eq_true, if_false, lim_0, lim_1, lim_2, lim_3, lim_4, lim_5, true_and, Nat.sub_zero, h0, ty_dict hw, p1, p2, p3, word_wp hw]
      exact q
    | false =>
      simp only [Bool.false_eq_true, if_false] at q ⊢
      simp only [wp_seq, wp_pass, wp_never, wp_expr, wp_ret, wp_retN, wp_ifS, wp_set, wp_asg, wp_par, wp_par3, wp_var, wp_K, wp_anil, wp_acons, wp_bin, wp_tup, wp_tupK, wp_lst, wp_call, wp_cb, wp_ifE, wp_tOf, wp_tAnd, wp_tOr, wp_tNot, wp_tYes, wp_and, wp_sl, wp_oN, wp_oS, wp_mt, wp_kget, wp_gname, wp_gtup, wp_gnil, wp_gcons, wp_gsub, wpR_ok, wpR_bad, wpR_bind, wpR_no, wpS_ok_nx, wpS_ok_rt, wpS_bad, wp_add, wp_sub, wp_mul, wp_mod, wp_fdiv, wp_pow, wp_lt, wp_le, wp_gt, wp_ge, wp_eqI, wp_neI, wp_eqS, wp_neS, Tr.ix_tup, len_tup, call1, call2, call3, call4, wipeD, startD, tupD, List.map_cons, List.map_nil, List.length_cons, List.length_nil, List.replicate, List.cons_append, List.nil_append, List.getElem?_cons_zero, List.getElem?_cons_succ, List.set_cons_zero, List.set_cons_succ, atI_0, atI_1, atI_2, atI_3, atI_4, atI_5, if_true, Bool.false_eq_true, if_false, lim_0, lim_1, lim_2, lim_3, lim_4, lim_5, true_and, Nat.sub_zero, h0, i3]
      cases b3 with
      | true =>
        simp only [if_true] at q ⊢
        obtain ⟨x, p1, q⟩ := q
        simp only [wp_seq, wp_pass, wp_never, wp_expr, wp_ret, wp_retN, wp_ifS, wp_set, wp_asg, wp_par, wp_par3, wp_var, wp_K, wp_anil, wp_acons, wp_bin, wp_tup, wp_tupK, wp_lst, wp_call, wp_cb, wp_ifE, wp_tOf, wp_tAnd, wp_tOr, wp_tNot, wp_tYes, wp_and, wp_sl, wp_oN, wp_oS, wp_mt, wp_kget, wp_gname, wp_gtup, wp_gnil, wp_gcons, wp_gsub, wpR_ok, wpR_bad, wpR_bind, wpR_no, wpS_ok_nx, wpS_ok_rt, wpS_bad, wp_add, wp_sub, wp_mul, wp_mod, wp_fdiv, wp_pow, wp_lt, wp_le, wp_gt, wp_ge, wp_eqI, wp_neI, wp_eqS, wp_neS, Tr.ix_tup, len_tup, call1, call2, call3, call4, wipeD, startD, tupD, List.map_cons, List.map_nil, List.length_cons, List.length_nil, List.replicate, List.cons_append, List.nil_append, List.getElem?_cons_zero, List.getElem?_cons_succ, List.set_cons_zero, List.set_cons_succ, atI_0, atI_1, atI_2, atI_3, atI_4, atI_5, if_true, Bool.false_eq_true, if_false, lim_0, lim_1, lim_2, lim_3, lim_4, lim_5, true_and, Nat.sub_zero, h0, ty_dict hw, p1, word_wp hw, cut2]
        rw [app _ _ _ _ (by have := cl (some 2) none; simp only [List.length_cons, List.length_nil]; omega)]
        exact q
      | false =>
        simp only [Bool.false_eq_true, if_false] at q ⊢
        simp only [wp_seq, wp_pass, wp_never, wp_expr, wp_ret, wp_retN, wp_ifS, wp_set, wp_asg, wp_par, wp_par3, wp_var, wp_K, wp_anil, wp_acons, wp_bin, wp_tup, wp_tupK, wp_lst, wp_call, wp_cb, wp_ifE, wp_tOf, wp_tAnd, wp_tOr, wp_tNot, wp_tYes, wp_and, wp_sl, wp_oN, wp_oS, wp_mt, wp_kget, wp_gname, wp_gtup, wp_gnil, wp_gcons, wp_gsub, wpR_ok, wpR_bad, wpR_bind, wpR_no, wpS_ok_nx, wpS_ok_rt, wpS_bad, wp_add, wp_sub, wp_mul, wp_mod, wp_fdiv, wp_pow, wp_lt, wp_le, wp_gt, wp_ge, wp_eqI, wp_neI, wp_eqS, wp_neS, Tr.ix_tup, len_tup, call1, call2, call3, call4, wipeD, startD, tupD, List.map_cons, List.map_nil, List.length_cons, List.length_nil, List.replicate, List.cons_append, List.nil_append, List.getElem?_cons_zero, List.getElem?_cons_succ, List.set_cons_zero, List.set_cons_succ, atI_0, atI_1, atI_2, atI_3, atI_4, atI_5, if_true, Bool.false_eq_true, if_false, lim_0, lim_1, lim_2, lim_3, lim_4, lim_5, true_and, Nat.sub_zero, h0, e4]
        cases b4 with
        | true =>
          simp only [if_true] at q ⊢
          obtain ⟨ss, p1, hl4, q⟩ := q
          with_reducible refine row_wp (ss := ss) (ps := ps) (w := w) h hw hwf hl4 (fun R hR => by simp only [wp_seq, wp_pass, wp_never, wp_expr, wp_ret, wp_retN, wp_ifS, wp_set, wp_asg, wp_par, wp_par3, wp_var, wp_K, wp_anil, wp_acons, wp_bin, wp_tup, wp_tupK, wp_lst, wp_call, wp_cb, wp_ifE, wp_tOf, wp_tAnd, wp_tOr, wp_tNot, wp_tYes, wp_and, wp_sl, wp_oN, wp_oS, wp_mt, wp_kget, wp_gname, wp_gtup, wp_gnil, wp_gcons, wp_gsub, wpR_ok, wpR_bad, wpR_bind, wpR_no, wpS_ok_nx, wpS_ok_rt, wpS_bad, wp_add, wp_sub, wp_mul, wp_mod, wp_fdiv, wp_pow, wp_lt, wp_le, wp_gt, wp_ge, wp_eqI, wp_neI, wp_eqS, wp_neS, Tr.ix_tup, len_tup, call1, call2, call3, call4, wipeD, startD, tupD, List.map_cons, List.map_nil, List.length_cons, List.length_nil, List.replicate, List.cons_append, List.nil_append, List.getElem?_cons_zero, List.getElem?_cons_succ, List.set_cons_zero, List.set_cons_succ, atI_0, atI_1, atI_2, atI_3, atI_4, atI_5, if_true, Bool.false_eq_true, if_false, lim_0, lim_1, lim_2, lim_3, lim_4, lim_5, true_and, Nat.sub_zero, p1]; exact hR) (by simp) (by simp) (by omega) fun M' hf hx ho => ?_
          simp only [wp_seq, wp_pass, wp_never, wp_expr, wp_ret, wp_retN, wp_ifS, wp_set, wp_asg, wp_par, wp_par3, wp_var, wp_K, wp_anil, wp_acons, wp_bin, wp_tup, wp_tupK, wp_lst, wp_call, wp_cb, wp_ifE, wp_tOf, wp_tAnd, wp_tOr, wp_tNot, wp_tYes, wp_and, wp_sl, wp_oN, wp_oS, wp_mt, wp_kget, wp_gname, wp_gtup, wp_gnil, wp_gcons, wp_gsub, wpR_ok, wpR_bad, wpR_bind, wpR_no, wpS_ok_nx, wpS_ok_rt, wpS_bad, wp_add, wp_sub, wp_mul, wp_mod, wp_fdiv, wp_pow, wp_lt, wp_le, wp_gt, wp_ge, wp_eqI, wp_neI, wp_eqS, wp_neS, Tr.ix_tup, len_tup, call1, call2, call3, call4, wipeD, startD, tupD, List.map_cons, List.map_nil, List.length_cons, List.length_nil, List.replicate, List.cons_append, List.nil_append, List.getElem?_cons_zero, List.getElem?_cons_succ, List.set_cons_zero, List.set_cons_succ, atI_0, atI_1, atI_2, atI_3, atI_4, atI_5, if_true, Bool.false_eq_true, if_false, lim_0, lim_1, lim_2, lim_3, lim_4, lim_5, true_and, Nat.sub_zero, tup_obj ho]
          exact q M' hf hx
        | false =>
          simp only [Bool.false_eq_true, if_false] at q ⊢
          simp only [wp_seq, wp_pass, wp_never, wp_expr, wp_ret, wp_retN, wp_ifS, wp_set, wp_asg, wp_par, wp_par3, wp_var, wp_K, wp_anil, wp_acons, wp_bin, wp_tup, wp_tupK, wp_lst, wp_call, wp_cb, wp_ifE, wp_tOf, wp_tAnd, wp_tOr, wp_tNot, wp_tYes, wp_and, wp_sl, wp_oN, wp_oS, wp_mt, wp_kget, wp_gname, wp_gtup, wp_gnil, wp_gcons, wp_gsub, wpR_ok, wpR_bad, wpR_bind, wpR_no, wpS_ok_nx, wpS_ok_rt, wpS_bad, wp_add, wp_sub, wp_mul, wp_mod, wp_fdiv, wp_pow, wp_lt, wp_le, wp_gt, wp_ge, wp_eqI, wp_neI, wp_eqS, wp_neS, Tr.ix_tup, len_tup, call1, call2, call3, call4, wipeD, startD, tupD, List.map_cons, List.map_nil, List.length_cons, List.length_nil, List.replicate, List.cons_append, List.nil_append, List.getElem?_cons_zero, List.getElem?_cons_succ, List.set_cons_zero, List.set_cons_succ, atI_0, atI_1, atI_2, atI_3, atI_4, atI_5, if_true, Bool.false_eq_true, if_false, lim_0, lim_1, lim_2, lim_3, lim_4, lim_5, true_and, Nat.sub_zero, h0, e5]
          cases b5 with
          | true =>
            simp only [if_true] at q ⊢
            obtain ⟨ss, p1, hl4, q⟩ := q
            simp only [wp_seq, wp_pass, wp_never, wp_expr, wp_ret, wp_retN, wp_ifS, wp_set, wp_asg, wp_par, wp_par3, wp_var, wp_K, wp_anil, wp_acons, wp_bin, wp_tup, wp_tupK, wp_lst, wp_call, wp_cb, wp_ifE, wp_tOf, wp_tAnd, wp_tOr, wp_tNot, wp_tYes, wp_and, wp_sl, wp_oN, wp_oS, wp_mt, wp_kget, wp_gname, wp_gtup, wp_gnil, wp_gcons, wp_gsub, wpR_ok, wpR_bad, wpR_bind, wpR_no, wpS_ok_nx, wpS_ok_rt, wpS_bad, wp_add, wp_sub, wp_mul, wp_mod, wp_fdiv, wp_pow, wp_lt, wp_le, wp_gt, wp_ge, wp_eqI, wp_neI, wp_eqS, wp_neS, Tr.ix_tup, len_tup, call1, call2, call3, call4, wipeD, startD, tupD, List.map_cons, List.map_nil, List.length_cons, List.length_nil, List.replicate, List.cons_append, List.nil_append, List.getElem?_cons_zero, List.getElem?_cons_succ, List.set_cons_zero, List.set_cons_succ, atI_0, atI_1, atI_2, atI_3, atI_4, atI_5, if_true, Bool.false_eq_true, if_false, lim_0, lim_1, lim_2, lim_3, lim_4, lim_5, true_and, Nat.sub_zero, cut4]
            with_reducible refine row_wp (ss := ss) (ps := ps) (w := w) h hw hwf hl4 (fun R hR => by simp only [wp_seq, wp_pass, wp_never, wp_expr, wp_ret, wp_retN, wp_ifS, wp_set, wp_asg, wp_par, wp_par3, wp_var, wp_K, wp_anil, wp_acons, wp_bin, wp_tup, wp_tupK, wp_lst, wp_call, wp_cb, wp_ifE, wp_tOf, wp_tAnd, wp_tOr, wp_tNot, wp_tYes, wp_and, wp_sl, wp_oN, wp_oS, wp_mt, wp_kget, wp_gname, wp_gtup, wp_gnil, wp_gcons, wp_gsub, wpR_ok, wpR_bad, wpR_bind, wpR_no, wpS_ok_nx, wpS_ok_rt, wpS_bad, wp_add, wp_sub, wp_mul, wp_mod, wp_fdiv, wp_pow, wp_lt, wp_le, wp_gt, wp_ge, wp_eqI, wp_neI, wp_eqS, wp_neS, Tr.ix_tup, len_tup, call1, call2, call3, call4, wipeD, startD, tupD, List.map_cons, List.map_nil, List.length_cons, List.length_nil, List.replicate, List.cons_append, List.nil_append, List.getElem?_cons_zero, List.getElem?_cons_succ, List.set_cons_zero, List.set_cons_succ, atI_0, atI_1, atI_2, atI_3, atI_4, atI_5, if_true, Bool.false_eq_true, if_false, lim_0, lim_1, lim_2, lim_3, lim_4, lim_5, true_and, Nat.sub_zero, p1]; exact hR) (by simp) (by simp) (by omega) fun M' hf hx ho => ?_
            simp only [wp_seq, wp_pass, wp_never, wp_expr, wp_ret, wp_retN, wp_ifS, wp_set, wp_asg, wp_par, wp_par3, wp_var, wp_K, wp_anil, wp_acons, wp_bin, wp_tup, wp_tupK, wp_lst, wp_call, wp_cb, wp_ifE, wp_tOf, wp_tAnd, wp_tOr, wp_tNot, wp_tYes, wp_and, wp_sl, wp_oN, wp_oS, wp_mt, wp_kget, wp_gname, wp_gtup, wp_gnil, wp_gcons, wp_gsub, wpR_ok, wpR_bad, wpR_bind, wpR_no, wpS_ok_nx, wpS_ok_rt, wpS_bad, wp_add, wp_sub, wp_mul, wp_mod, wp_fdiv, wp_pow, wp_lt, wp_le, wp_gt, wp_ge, wp_eqI, wp_neI, wp_eqS, wp_neS, Tr.ix_tup, len_tup, call1, call2, call3, call4, wipeD, startD, tupD, List.map_cons, List.map_nil, List.length_cons, List.length_nil, List.replicate, List.cons_append, List.nil_append, List.getElem?_cons_zero, List.getElem?_cons_succ, List.set_cons_zero, List.set_cons_succ, atI_0, atI_1, atI_2, atI_3, atI_4, atI_5, if_true, Bool.false_eq_true, if_false, lim_0, lim_1, lim_2, lim_3, lim_4, lim_5, true_and, Nat.sub_zero, tup_obj ho]
            rw [app _ _ _ _ (by have := cl none (some 4); simp only [List.length_cons, List.length_nil]; omega)]
            exact q M' hf hx
          | false =>
            simp only [Bool.false_eq_true, if_false] at q ⊢
            exact q
theorem deedby_wp {E : List Str} {d : Dd} (hd : d.Good E) (h : Feed f c cs M n) (hw : M[w]? = some (.dK (mergeD (ps.map prK)))) (hwf : w ≠ f)
    (q : ∀ M', Feed f c cs M' n → Ext [f] M M' → Q (d.ren (wordOf ps)).toD M') : wpR (F__law_deed_by [d.toD, .obj w] M) Q := by
  rw [toD_parts]
  have q0 := q M h (Ext.refl _ _)
  cases d with
  | dish w i =>
    rcases hd.1 with rfl | rfl | rfl
    · exact by_core (w0 := "serve") (b1 := false) (b2 := false) (b3 := false) (b4 := false) (b5 := false) h hw hwf (by simp [Dd.parts]) rfl (fun _ => by kernel_rfl) (by decide +kernel) (fun _ => by kernel_rfl) (by decide +kernel) (by decide +kernel) (by simp only [if_true, Bool.false_eq_true, if_false]; exact q0)
    · exact by_core (w0 := "back") (b1 := false) (b2 := false) (b3 := false) (b4 := false) (b5 := false) h hw hwf (by simp [Dd.parts]) rfl (fun _ => by kernel_rfl) (by decide +kernel) (fun _ => by kernel_rfl) (by decide +kernel) (by decide +kernel) (by simp only [if_true, Bool.false_eq_true, if_false]; exact q0)
    · exact by_core (w0 := "strike") (b1 := false) (b2 := false) (b3 := false) (b4 := false) (b5 := false) h hw hwf (by simp [Dd.parts]) rfl (fun _ => by kernel_rfl) (by decide +kernel) (fun _ => by kernel_rfl) (by decide +kernel) (by decide +kernel) (by simp only [if_true, Bool.false_eq_true, if_false]; exact q0)
  | change i x =>
    exact by_core (w0 := "change") (b1 := false) (b2 := false) (b3 := false) (b4 := false) (b5 := false) h hw hwf (by simp [Dd.parts]) rfl (fun _ => by kernel_rfl) (by decide +kernel) (fun _ => by kernel_rfl) (by decide +kernel) (by decide +kernel) (by simp only [if_true, Bool.false_eq_true, if_false]; exact q0)
  | ask i x k ss =>
    exact by_core (w0 := "ask") (b1 := false) (b2 := false) (b3 := false) (b4 := false) (b5 := true) h hw hwf (by simp [Dd.parts]) rfl (fun _ => by kernel_rfl) (by decide +kernel) (fun _ => by kernel_rfl) (by decide +kernel) (by decide +kernel) (by simp only [if_true, Bool.false_eq_true, if_false]; exact ⟨ss, rfl, hd.2.2.2.1, q⟩)
  | stove w t k =>
    rcases hd.1 with rfl | rfl
    · exact by_core (w0 := "fire") (b1 := false) (b2 := false) (b3 := true) (b4 := false) (b5 := false) h hw hwf (by simp [Dd.parts]) rfl (fun _ => by kernel_rfl) (by decide +kernel) (fun _ => by kernel_rfl) (by decide +kernel) (by decide +kernel) (by simp only [if_true, Bool.false_eq_true, if_false]; exact ⟨_, rfl, q0⟩)
    · exact by_core (w0 := "rush") (b1 := false) (b2 := false) (b3 := true) (b4 := false) (b5 := false) h hw hwf (by simp [Dd.parts]) rfl (fun _ => by kernel_rfl) (by decide +kernel) (fun _ => by kernel_rfl) (by decide +kernel) (by decide +kernel) (by simp only [if_true, Bool.false_eq_true, if_false]; exact ⟨_, rfl, q0⟩)
  | even ss =>
    exact by_core (w0 := "even") (b1 := false) (b2 := false) (b3 := false) (b4 := true) (b5 := false) h hw hwf (by simp [Dd.parts]) rfl (fun _ => by kernel_rfl) (by decide +kernel) (fun _ => by kernel_rfl) (by decide +kernel) (by decide +kernel) (by simp only [if_true, Bool.false_eq_true, if_false]; exact ⟨ss, rfl, hd.1, q⟩)
  | pair w a b =>
    rcases hd.1 with rfl | rfl | rfl
    · exact by_core (w0 := "sit") (b1 := true) (b2 := false) (b3 := false) (b4 := false) (b5 := false) h hw hwf (by simp [Dd.parts]) rfl (fun _ => by kernel_rfl) (by decide +kernel) (fun _ => by kernel_rfl) (by decide +kernel) (by decide +kernel) (by simp only [if_true, Bool.false_eq_true, if_false]; exact ⟨_, _, rfl, rfl, q0⟩)
    · exact by_core (w0 := "move") (b1 := true) (b2 := false) (b3 := false) (b4 := false) (b5 := false) h hw hwf (by simp [Dd.parts]) rfl (fun _ => by kernel_rfl) (by decide +kernel) (fun _ => by kernel_rfl) (by decide +kernel) (by decide +kernel) (by simp only [if_true, Bool.false_eq_true, if_false]; exact ⟨_, _, rfl, rfl, q0⟩)
    · exact by_core (w0 := "join") (b1 := true) (b2 := false) (b3 := false) (b4 := false) (b5 := false) h hw hwf (by simp [Dd.parts]) rfl (fun _ => by kernel_rfl) (by decide +kernel) (fun _ => by kernel_rfl) (by decide +kernel) (by decide +kernel) (by simp only [if_true, Bool.false_eq_true, if_false]; exact ⟨_, _, rfl, rfl, q0⟩)
  | go a =>
    exact by_core (w0 := "go") (b1 := false) (b2 := false) (b3 := true) (b4 := false) (b5 := false) h hw hwf (by simp [Dd.parts]) rfl (fun _ => by kernel_rfl) (by decide +kernel) (fun _ => by kernel_rfl) (by decide +kernel) (by decide +kernel) (by simp only [if_true, Bool.false_eq_true, if_false]; exact ⟨_, rfl, q0⟩)
  | pay a i =>
    exact by_core (w0 := "pay") (b1 := false) (b2 := false) (b3 := true) (b4 := false) (b5 := false) h hw hwf (by simp [Dd.parts]) rfl (fun _ => by kernel_rfl) (by decide +kernel) (fun _ => by kernel_rfl) (by decide +kernel) (by decide +kernel) (by simp only [if_true, Bool.false_eq_true, if_false]; exact ⟨_, rfl, q0⟩)
  | take a b i =>
    exact by_core (w0 := "take") (b1 := false) (b2 := true) (b3 := false) (b4 := false) (b5 := false) h hw hwf (by simp [Dd.parts]) rfl (fun _ => by kernel_rfl) (by decide +kernel) (fun _ => by kernel_rfl) (by decide +kernel) (by decide +kernel) (by simp only [if_true, Bool.false_eq_true, if_false]; exact ⟨_, _, _, rfl, rfl, rfl, q0⟩)
/-! the whole book -/
def Pg.ren (g : Str → Str) (later : Int) (p : Pg) : Pg := ⟨p.m + later, p.k, p.d.ren g⟩
def bookD (pgs : List Pg) : D := .tup (pgs.map Pg.toD)
theorem parts_len (d : Dd) : d.parts.length ≤ 5 := by cases d <;> simp [Dd.parts]
theorem ren_len (g : Str → Str) (d : Dd) : (d.ren g).parts.length = d.parts.length := by cases d <;> rfl
theorem bookby_wp {E : List Str} {pgs : List Pg} {more : Int} (hp : ∀ p ∈ pgs, p.d.Good E) (hl : pgs.length ≤ 30) (h : Feed f c cs M n)
    (q : ∀ M', Feed f c cs M' n → Ext [f] M M' → Q (bookD (pgs.map (Pg.ren (wordOf ps) more))) M') : wpR (F__law_book_by [bookD pgs, .ktup (ps.map prD), .int more] M) Q := by
  unfold F__law_book_by B__law_book_by bookD
  rw [wp_run]
  have lf := h.lf
  simp only [wp_seq, wp_pass, wp_never, wp_expr, wp_ret, wp_retN, wp_ifS, wp_set, wp_asg, wp_par, wp_par3, wp_var, wp_K, wp_anil, wp_acons, wp_bin, wp_tup, wp_tupK, wp_lst, wp_call, wp_cb, wp_ifE, wp_tOf, wp_tAnd, wp_tOr, wp_tNot, wp_tYes, wp_and, wp_sl, wp_oN, wp_oS, wp_mt, wp_kget, wp_gname, wp_gtup, wp_gnil, wp_gcons, wp_gsub, wpR_ok, wpR_bad, wpR_bind, wpR_no, wpS_ok_nx, wpS_ok_rt, wpS_bad, wp_add, wp_sub, wp_mul, wp_mod, wp_fdiv, wp_pow, wp_lt, wp_le, wp_gt, wp_ge, wp_eqI, wp_neI, wp_eqS, wp_neS, Tr.ix_tup, len_tup, call1, call2, call3, call4, wipeD, startD, tupD, List.map_cons, List.map_nil, List.length_cons, List.length_nil, List.replicate, List.cons_append, List.nil_append, List.getElem?_cons_zero, List.getElem?_cons_succ, List.set_cons_zero, List.set_cons_succ, atI_0, atI_1, atI_2, atI_3, atI_4, atI_5, if_true, Bool.false_eq_true, if_false, lim_0, lim_1, lim_2, lim_3, lim_4, lim_5, true_and, Nat.sub_zero, dict_wp]
  have hw0 : (M ++ [.dK (mergeD (ps.map prK))])[M.length]? = some (.dK (mergeD (ps.map prK))) := get_new
  have hwf : M.length ≠ f := by omega
  have f1 := h.push [.dK (mergeD (ps.map prK))]
  have x1 : Ext [f] M (M ++ [.dK (mergeD (ps.map prK))]) := Ext.push _ _
  generalize M ++ [.dK (mergeD (ps.map prK))] = M1 at hw0 f1 x1 ⊢
  generalize M.length = w at hw0 hwf ⊢
  with_reducible refine lcV_wp (d := .tup (pgs.map Pg.toD)) (zs := pgs.map Pg.toD) 0 (fun i acc => acc = ((pgs.take i).map (Pg.ren (wordOf ps) more)).map Pg.toD) (fun R hR => by simp only [wp_seq, wp_pass, wp_never, wp_expr, wp_ret, wp_retN, wp_ifS, wp_set, wp_asg, wp_par, wp_par3, wp_var, wp_K, wp_anil, wp_acons, wp_bin, wp_tup, wp_tupK, wp_lst, wp_call, wp_cb, wp_ifE, wp_tOf, wp_tAnd, wp_tOr, wp_tNot, wp_tYes, wp_and, wp_sl, wp_oN, wp_oS, wp_mt, wp_kget, wp_gname, wp_gtup, wp_gnil, wp_gcons, wp_gsub, wpR_ok, wpR_bad, wpR_bind, wpR_no, wpS_ok_nx, wpS_ok_rt, wpS_bad, wp_add, wp_sub, wp_mul, wp_mod, wp_fdiv, wp_pow, wp_lt, wp_le, wp_gt, wp_ge, wp_eqI, wp_neI, wp_eqS, wp_neS, Tr.ix_tup, len_tup, call1, call2, call3, call4, wipeD, startD, tupD, List.map_cons, List.map_nil, List.length_cons, List.length_nil, List.replicate, List.cons_append, List.nil_append, List.getElem?_cons_zero, List.getElem?_cons_succ, List.set_cons_zero, List.set_cons_succ, atI_0, atI_1, atI_2, atI_3, atI_4, atI_5, if_true, Bool.false_eq_true, if_false, lim_0, lim_1, lim_2, lim_3, lim_4, lim_5, true_and, Nat.sub_zero]; exact hR) (fun _ _ => (by simp only [seqD])) f1 (by simp) (by rw [List.length_map]; omega) ?_ ?_
  · intro i acc M' hi hJ hf hx
    have hi' : i < pgs.length := by simpa using hi
    have e : (pgs.map Pg.toD).getD i .non = Pg.toD pgs[i] := by simp [List.getD, hi']
    rw [e]
    simp only [Pg.toD, wp_seq, wp_pass, wp_never, wp_expr, wp_ret, wp_retN, wp_ifS, wp_set, wp_asg, wp_par, wp_par3, wp_var, wp_K, wp_anil, wp_acons, wp_bin, wp_tup, wp_tupK, wp_lst, wp_call, wp_cb, wp_ifE, wp_tOf, wp_tAnd, wp_tOr, wp_tNot, wp_tYes, wp_and, wp_sl, wp_oN, wp_oS, wp_mt, wp_kget, wp_gname, wp_gtup, wp_gnil, wp_gcons, wp_gsub, wpR_ok, wpR_bad, wpR_bind, wpR_no, wpS_ok_nx, wpS_ok_rt, wpS_bad, wp_add, wp_sub, wp_mul, wp_mod, wp_fdiv, wp_pow, wp_lt, wp_le, wp_gt, wp_ge, wp_eqI, wp_neI, wp_eqS, wp_neS, Tr.ix_tup, len_tup, call1, call2, call3, call4, wipeD, startD, tupD, List.map_cons, List.map_nil, List.length_cons, List.length_nil, List.replicate, List.cons_append, List.nil_append, List.getElem?_cons_zero, List.getElem?_cons_succ, List.set_cons_zero, List.set_cons_succ, atI_0, atI_1, atI_2, atI_3, atI_4, atI_5, if_true, Bool.false_eq_true, if_false, lim_0, lim_1, lim_2, lim_3, lim_4, lim_5, true_and, Nat.sub_zero]
    with_reducible refine deedby_wp (ps := ps) (hp _ (List.getElem_mem hi')) hf (hx.get (by simpa using hwf) hw0) hwf fun M6 f6 x6 => ?_
    refine ⟨?_, f6.mono (by omega), x6⟩
    rw [hJ, List.take_add_one, List.getElem?_eq_getElem hi', Option.toList_some, List.map_append, List.map_append]
    rfl
  · intro acc M' hJ _ hf hx ho
    rw [tup_obj ho, hJ, List.take_of_length_le (by rw [List.length_map]; exact Nat.le_refl _)]
    exact q M' (hf.mono (by omega)) (x1.trans hx)
theorem renamed_core {E : List Str} {pgs : List Pg} {later : Int} {words bd : D} (hbd : ∀ M, seqD bd M = some (pgs.map Pg.toD)) (hp : ∀ p ∈ pgs, p.d.Good E) (hl : pgs.length ≤ 30) (h : Feed f c cs M n) {M1 : Mem} (f1 : Feed f c cs M1 n) (x1 : Ext [f] M M1) (hw : M1[w]? = some (.dK (mergeD (ps.map prK)))) (hwf : w ≠ f)
    (hbeg : ∀ S : D → Mem → Prop, S (.obj w) M1 → wpR (eIf (tOf (eBin gNotN (eVar 1) (eK .non))) (eCB gDict (aCons (eVar 1) aNil)) eDictK [some bd, some words, some (.int later), none, none, none, none, none, none, none] M) S)
    (q : ∀ M', Feed f c cs M' n → Ext [f] M M' → Q (bookD (pgs.map (Pg.ren (wordOf ps) later))) M') : wpR (F_renamed [bd, words, .int later] M) Q := by
  unfold F_renamed B_renamed
  rw [wp_run]
  simp only [startD, List.map_cons, List.map_nil, List.length_cons, List.length_nil, List.replicate, List.cons_append, List.nil_append]
  rw [wp_seq, wp_set]
  refine hbeg _ ?_
  simp only [wp_seq, wp_pass, wp_never, wp_expr, wp_ret, wp_retN, wp_ifS, wp_set, wp_asg, wp_par, wp_par3, wp_var, wp_K, wp_anil, wp_acons, wp_bin, wp_tup, wp_tupK, wp_lst, wp_call, wp_cb, wp_ifE, wp_tOf, wp_tAnd, wp_tOr, wp_tNot, wp_tYes, wp_and, wp_sl, wp_oN, wp_oS, wp_mt, wp_kget, wp_gname, wp_gtup, wp_gnil, wp_gcons, wp_gsub, wpR_ok, wpR_bad, wpR_bind, wpR_no, wpS_ok_nx, wpS_ok_rt, wpS_bad, wp_add, wp_sub, wp_mul, wp_mod, wp_fdiv, wp_pow, wp_lt, wp_le, wp_gt, wp_ge, wp_eqI, wp_neI, wp_eqS, wp_neS, Tr.ix_tup, len_tup, call1, call2, call3, call4, wipeD, startD, tupD, List.map_cons, List.map_nil, List.length_cons, List.length_nil, List.replicate, List.cons_append, List.nil_append, List.getElem?_cons_zero, List.getElem?_cons_succ, List.set_cons_zero, List.set_cons_succ, atI_0, atI_1, atI_2, atI_3, atI_4, atI_5, if_true, Bool.false_eq_true, if_false, lim_0, lim_1, lim_2, lim_3, lim_4, lim_5, true_and, Nat.sub_zero]
  have lf := f1.lf
  have lw := (List.getElem?_eq_some_iff.mp hw).1
  have w2 := get_push (N := [.lst []]) hw
  have o2 : (M1 ++ [.lst []])[M1.length]? = some (.lst []) := get_new
  have f2 := f1.push [.lst []]
  have x2 : Ext [f] M (M1 ++ [.lst []]) := x1.trans (Ext.push _ _)
  have lx := x1.1
  have lo : M1.length ≠ f ∧ M1.length ≠ c ∧ M1.length ≠ w ∧ M.length ≤ M1.length := by omega
  generalize M1 ++ [.lst []] = M2 at w2 o2 f2 x2 ⊢
  generalize M1.length = o at o2 lo ⊢
  with_reducible refine for_wp ?_
  simp only [wp_iseq, wp_var, List.getElem?_cons_zero, hbd]
  obtain ⟨I, hI⟩ : ∃ I : Nat → DEnv → Mem → Prop, ∀ i env M', I i env M' ↔ ∃ (w1 w2 w3 w4 w5 : Option D), env = [some bd, some words, some (.int later), some (.obj w), some (.obj o), w1, w2, w3, w4, w5] ∧
    M'[o]? = some (.lst (((pgs.take i).map (Pg.ren (wordOf ps) later)).map Pg.toD)) ∧ M'[w]? = some (.dK (mergeD (ps.map prK))) ∧ Feed f c cs M' n ∧ Ext [f, o] M2 M' := ⟨_, fun _ _ _ => Iff.rfl⟩
  refine ⟨I, (hI _ _ _).mpr ⟨none, none, none, none, none, rfl, o2, w2, f2, Ext.refl _ _⟩, ?_, ?_⟩
  · intro i env M' hi hh
    obtain ⟨w1, w2', w3, w4, w5, rfl, ho, hww, hf, hx⟩ := (hI _ _ _).mp hh
    have hi' : i < pgs.length := by simpa [itS] using hi
    have e : (pgs.map Pg.toD)[i]? = some (Pg.toD pgs[i]) := by simp [hi']
    refine ⟨_, itS_in (hbd _) e, ?_⟩
    simp only [Pg.toD, wp_seq, wp_pass, wp_never, wp_expr, wp_ret, wp_retN, wp_ifS, wp_set, wp_asg, wp_par, wp_par3, wp_var, wp_K, wp_anil, wp_acons, wp_bin, wp_tup, wp_tupK, wp_lst, wp_call, wp_cb, wp_ifE, wp_tOf, wp_tAnd, wp_tOr, wp_tNot, wp_tYes, wp_and, wp_sl, wp_oN, wp_oS, wp_mt, wp_kget, wp_gname, wp_gtup, wp_gnil, wp_gcons, wp_gsub, wpR_ok, wpR_bad, wpR_bind, wpR_no, wpS_ok_nx, wpS_ok_rt, wpS_bad, wp_add, wp_sub, wp_mul, wp_mod, wp_fdiv, wp_pow, wp_lt, wp_le, wp_gt, wp_ge, wp_eqI, wp_neI, wp_eqS, wp_neS, Tr.ix_tup, len_tup, call1, call2, call3, call4, wipeD, startD, tupD, List.map_cons, List.map_nil, List.length_cons, List.length_nil, List.replicate, List.cons_append, List.nil_append, List.getElem?_cons_zero, List.getElem?_cons_succ, List.set_cons_zero, List.set_cons_succ, atI_0, atI_1, atI_2, atI_3, atI_4, atI_5, if_true, Bool.false_eq_true, if_false, lim_0, lim_1, lim_2, lim_3, lim_4, lim_5, true_and, Nat.sub_zero]
    with_reducible refine lcR_wp (N := pgs[i].d.parts.length) 0 (fun j acc => acc = (pgs[i].d.ren (wordOf ps)).parts.take j) (fun R hR => by simp only [toD_parts, wp_seq, wp_pass, wp_never, wp_expr, wp_ret, wp_retN, wp_ifS, wp_set, wp_asg, wp_par, wp_par3, wp_var, wp_K, wp_anil, wp_acons, wp_bin, wp_tup, wp_tupK, wp_lst, wp_call, wp_cb, wp_ifE, wp_tOf, wp_tAnd, wp_tOr, wp_tNot, wp_tYes, wp_and, wp_sl, wp_oN, wp_oS, wp_mt, wp_kget, wp_gname, wp_gtup, wp_gnil, wp_gcons, wp_gsub, wpR_ok, wpR_bad, wpR_bind, wpR_no, wpS_ok_nx, wpS_ok_rt, wpS_bad, wp_add, wp_sub, wp_mul, wp_mod, wp_fdiv, wp_pow, wp_lt, wp_le, wp_gt, wp_ge, wp_eqI, wp_neI, wp_eqS, wp_neS, Tr.ix_tup, len_tup, call1, call2, call3, call4, wipeD, startD, tupD, List.map_cons, List.map_nil, List.length_cons, List.length_nil, List.replicate, List.cons_append, List.nil_append, List.getElem?_cons_zero, List.getElem?_cons_succ, List.set_cons_zero, List.set_cons_succ, atI_0, atI_1, atI_2, atI_3, atI_4, atI_5, if_true, Bool.false_eq_true, if_false, lim_0, lim_1, lim_2, lim_3, lim_4, lim_5, true_and, Nat.sub_zero]; exact hR) hf (by simp) (by have := parts_len pgs[i].d; omega) ?_ ?_
    · intro j acc M3 hj hJ hf3 hx3
      have hj' : j < (pgs[i].d.ren (wordOf ps)).parts.length := by rw [ren_len]; exact hj
      simp only [wp_seq, wp_pass, wp_never, wp_expr, wp_ret, wp_retN, wp_ifS, wp_set, wp_asg, wp_par, wp_par3, wp_var, wp_K, wp_anil, wp_acons, wp_bin, wp_tup, wp_tupK, wp_lst, wp_call, wp_cb, wp_ifE, wp_tOf, wp_tAnd, wp_tOr, wp_tNot, wp_tYes, wp_and, wp_sl, wp_oN, wp_oS, wp_mt, wp_kget, wp_gname, wp_gtup, wp_gnil, wp_gcons, wp_gsub, wpR_ok, wpR_bad, wpR_bind, wpR_no, wpS_ok_nx, wpS_ok_rt, wpS_bad, wp_add, wp_sub, wp_mul, wp_mod, wp_fdiv, wp_pow, wp_lt, wp_le, wp_gt, wp_ge, wp_eqI, wp_neI, wp_eqS, wp_neS, Tr.ix_tup, len_tup, call1, call2, call3, call4, wipeD, startD, tupD, List.map_cons, List.map_nil, List.length_cons, List.length_nil, List.replicate, List.cons_append, List.nil_append, List.getElem?_cons_zero, List.getElem?_cons_succ, List.set_cons_zero, List.set_cons_succ, atI_0, atI_1, atI_2, atI_3, atI_4, atI_5, if_true, Bool.false_eq_true, if_false, lim_0, lim_1, lim_2, lim_3, lim_4, lim_5, true_and, Nat.sub_zero]
      with_reducible refine thing_wp (ps := ps) (hp _ (List.getElem_mem hi')) hf3 (hx3.get (by simpa using hwf) hww) hwf (List.getElem?_eq_getElem hj') fun M4 f4 x4 => ?_
      refine ⟨?_, f4.mono (by omega), x4⟩
      rw [hJ, List.take_add_one, List.getElem?_eq_getElem hj']
      rfl
    · intro acc M3 hJ _ hf3 hx3 ho3
      have ho' := hx3.get (by simp; omega) ho
      have pl : ((pgs.take i).map (Pg.ren (wordOf ps) later)).length ≤ 30 := by rw [List.length_map, List.length_take]; omega
      simp only [wp_seq, wp_pass, wp_never, wp_expr, wp_ret, wp_retN, wp_ifS, wp_set, wp_asg, wp_par, wp_par3, wp_var, wp_K, wp_anil, wp_acons, wp_bin, wp_tup, wp_tupK, wp_lst, wp_call, wp_cb, wp_ifE, wp_tOf, wp_tAnd, wp_tOr, wp_tNot, wp_tYes, wp_and, wp_sl, wp_oN, wp_oS, wp_mt, wp_kget, wp_gname, wp_gtup, wp_gnil, wp_gcons, wp_gsub, wpR_ok, wpR_bad, wpR_bind, wpR_no, wpS_ok_nx, wpS_ok_rt, wpS_bad, wp_add, wp_sub, wp_mul, wp_mod, wp_fdiv, wp_pow, wp_lt, wp_le, wp_gt, wp_ge, wp_eqI, wp_neI, wp_eqS, wp_neS, Tr.ix_tup, len_tup, call1, call2, call3, call4, wipeD, startD, tupD, List.map_cons, List.map_nil, List.length_cons, List.length_nil, List.replicate, List.cons_append, List.nil_append, List.getElem?_cons_zero, List.getElem?_cons_succ, List.set_cons_zero, List.set_cons_succ, atI_0, atI_1, atI_2, atI_3, atI_4, atI_5, if_true, Bool.false_eq_true, if_false, lim_0, lim_1, lim_2, lim_3, lim_4, lim_5, true_and, Nat.sub_zero, tup_obj ho3, ty_list ho']
      rw [app_obj ho' (by rw [List.length_map]; unfold lim; omega)]
      refine (hI _ _ _).mpr ⟨_, _, _, _, _, rfl, ?_, get_set_ne (by omega) (hx3.get (by simpa using hwf) hww), (hf3.mono (by omega)).put (by omega) (by omega), (hx.trans (hx3.weak (by simp))).trans (Ext.set _ (by simp))⟩
      have tk : (pgs[i].d.ren (wordOf ps)).parts.take pgs[i].d.parts.length = (pgs[i].d.ren (wordOf ps)).parts := List.take_of_length_le (by rw [ren_len]; exact Nat.le_refl _)
      rw [get_set ho', hJ, tk, List.take_add_one, List.getElem?_eq_getElem hi', Option.toList_some, List.map_append, List.map_append, ← toD_parts]
      rfl
  · intro env M' hh
    obtain ⟨w1, w2', w3, w4, w5, rfl, ho, hww, hf, hx⟩ := (hI _ _ _).mp hh
    have hN : (itS bd (pgs.map Pg.toD).length).n = pgs.length := by simp [itS]
    refine ⟨itS_end (hbd _) (by rw [hN, List.length_map]; exact Nat.le_refl _), ?_⟩
    rw [hN, List.take_of_length_le (Nat.le_refl _)] at ho
    simp only [wp_seq, wp_pass, wp_never, wp_expr, wp_ret, wp_retN, wp_ifS, wp_set, wp_asg, wp_par, wp_par3, wp_var, wp_K, wp_anil, wp_acons, wp_bin, wp_tup, wp_tupK, wp_lst, wp_call, wp_cb, wp_ifE, wp_tOf, wp_tAnd, wp_tOr, wp_tNot, wp_tYes, wp_and, wp_sl, wp_oN, wp_oS, wp_mt, wp_kget, wp_gname, wp_gtup, wp_gnil, wp_gcons, wp_gsub, wpR_ok, wpR_bad, wpR_bind, wpR_no, wpS_ok_nx, wpS_ok_rt, wpS_bad, wp_add, wp_sub, wp_mul, wp_mod, wp_fdiv, wp_pow, wp_lt, wp_le, wp_gt, wp_ge, wp_eqI, wp_neI, wp_eqS, wp_neS, Tr.ix_tup, len_tup, call1, call2, call3, call4, wipeD, startD, tupD, List.map_cons, List.map_nil, List.length_cons, List.length_nil, List.replicate, List.cons_append, List.nil_append, List.getElem?_cons_zero, List.getElem?_cons_succ, List.set_cons_zero, List.set_cons_succ, atI_0, atI_1, atI_2, atI_3, atI_4, atI_5, if_true, Bool.false_eq_true, if_false, lim_0, lim_1, lim_2, lim_3, lim_4, lim_5, true_and, Nat.sub_zero, tup_obj ho]
    exact q M' hf ((x2.weak (gs := [f, o]) (by simp)).trans hx |>.fresh (by simp; omega))
theorem renamed_wp {E : List Str} {pgs : List Pg} {later : Int} (hp : ∀ p ∈ pgs, p.d.Good E) (hl : pgs.length ≤ 30) (h : Feed f c cs M n)
    (q : ∀ M', Feed f c cs M' n → Ext [f] M M' → Q (bookD (pgs.map (Pg.ren (wordOf ps) later))) M') : wpR (F_renamed [bookD pgs, .ktup (ps.map prD), .int later] M) Q :=
  renamed_core (w := M.length) (ps := ps) (fun _ => rfl) hp hl h (h.push [.dK (mergeD (ps.map prK))]) (Ext.push _ _) get_new (by have := h.lf; omega) (fun S hS => by
    simp only [wp_ifE, wp_tOf, wp_bin, wp_var, wp_K, wp_cb, wp_acons, wp_anil, List.getElem?_cons_zero, List.getElem?_cons_succ, gNotN, isNonD, wpR_ok, Bool.not_false, if_true, dict_wp]
    exact hS) q
theorem renamedN_wp {E : List Str} {pgs : List Pg} {later : Int} (hp : ∀ p ∈ pgs, p.d.Good E) (hl : pgs.length ≤ 30) (h : Feed f c cs M n)
    (q : ∀ M', Feed f c cs M' n → Ext [f] M M' → Q (bookD (pgs.map (Pg.ren (wordOf []) later))) M') : wpR (F_renamed [bookD pgs, .non, .int later] M) Q :=
  renamed_core (w := M.length) (ps := []) (fun _ => rfl) hp hl h (h.push [.dK []]) (Ext.push _ _) get_new (by have := h.lf; omega) (fun S hS => by
    simp only [wp_ifE, wp_tOf, wp_bin, wp_var, wp_K, List.getElem?_cons_zero, List.getElem?_cons_succ, gNotN, isNonD, wpR_ok, Bool.not_true, Bool.false_eq_true, if_false, eDictK, newO]
    exact hS) q
theorem renamedK_wp {later : Int} (h : Feed f c cs M n)
    (q : ∀ M', Feed f c cs M' n → Ext [f] M M' → Q (bookD []) M') : wpR (F_renamed [.ktup [], .non, .int later] M) Q :=
  renamed_core (E := []) (pgs := []) (w := M.length) (ps := []) (fun _ => rfl) (by simp) (by simp) h (h.push [.dK []]) (Ext.push _ _) get_new (by have := h.lf; omega) (fun S hS => by
    simp only [wp_ifE, wp_tOf, wp_bin, wp_var, wp_K, List.getElem?_cons_zero, List.getElem?_cons_succ, gNotN, isNonD, wpR_ok, Bool.not_true, Bool.false_eq_true, if_false, eDictK, newO]
    exact hS) q
end
end Lw

set_option Elab.async false
set_option linter.all false
set_option maxRecDepth 100000
set_option maxHeartbeats 4000000
namespace Lw
open PySem PySem.Spec PyProof.Rows L2 Tr
open PySem.Builtin.Str (reprChar)
def Uni (x : Str) : Prop := ∀ c ∈ x.cps.toList, c < 1114112
theorem uni_ok {x : Str} (h : Uni x) : SOk x := by
  show x.cps.all _ = true
  rw [Array.all_eq_true']
  intro c hc
  exact decide_eq_true (h c (by simpa using hc))
theorem ok_uni {x : Str} (h : SOk x) : Uni x := by
  have h' : x.cps.all (fun c => decide (c < 0x110000)) = true := h
  rw [Array.all_eq_true'] at h'
  intro c hc
  exact of_decide_eq_true (h' c (by simpa using hc))
theorem uni_app {x y : Str} (h : Uni x) (h' : Uni y) : Uni (x ++ y) := by
  intro c hc
  have : c ∈ x.cps.toList ++ y.cps.toList := by
    have e : (x ++ y).cps = x.cps ++ y.cps := rfl
    rw [e] at hc
    simpa using hc
  rcases List.mem_append.mp this with z | z
  · exact h c z
  · exact h' c z
theorem chr_lt (c : Char) : c.toNat < 1114112 := by
  have := c.valid
  have h : c.val.toNat < 0xd800 ∨ (0xdfff < c.val.toNat ∧ c.val.toNat < 0x110000) := this
  show c.val.toNat < _
  omega
theorem uni_str (s : String) : Uni (Str.ofString s) := by
  intro c hc
  have e : (Str.ofString s).cps.toList = s.toList.map Char.toNat := by rw [Str.ofString_eq_toList]
  rw [e] at hc
  obtain ⟨d, _, rfl⟩ := List.mem_map.mp hc
  exact chr_lt d
theorem reprChar_lt {q c : Nat} (hq : q < 1114112) (hc : c < 1114112) : ∀ d ∈ reprChar q c, d < 1114112 := by
  have hx : ∀ w, ∀ d ∈ (List.replicate (w - ((Nat.toDigits 16 c).map Char.toNat).length) 48 ++ (Nat.toDigits 16 c).map Char.toNat), d < 1114112 := fun w d hd => by
    rcases List.mem_append.mp hd with z | z
    · rw [(List.mem_replicate.mp z).2]; decide
    · obtain ⟨e, _, rfl⟩ := List.mem_map.mp z
      exact chr_lt e
  intro d hd
  unfold reprChar at hd
  dsimp only at hd
  split at hd
  · simp at hd; omega
  split at hd
  · simp at hd; omega
  split at hd
  · simp at hd; omega
  split at hd
  · simp at hd; omega
  split at hd
  · simp at hd; omega
  split at hd
  · rcases List.mem_append.mp hd with z | z
    · simp at z; omega
    · exact hx 2 d z
  split at hd
  · rcases List.mem_append.mp hd with z | z
    · simp at z; omega
    · exact hx 4 d z
  · rcases List.mem_append.mp hd with z | z
    · simp at z; omega
    · exact hx 8 d z
theorem fold_lt {q : Nat} (hq : q < 1114112) : ∀ (l : List Nat) (acc : Array Nat), (∀ c ∈ l, c < 1114112) → (∀ c ∈ acc.toList, c < 1114112) → ∀ c ∈ (l.foldl (fun out c => out ++ (reprChar q c).toArray) acc).toList, c < 1114112
  | [], acc, _, h => h
  | x :: l, acc, hl, h => fold_lt hq l _ (fun c hc => hl c (List.mem_cons_of_mem _ hc)) fun c hc => by
      have : c ∈ acc.toList ++ reprChar q x := by simpa using hc
      rcases List.mem_append.mp this with z | z
      · exact h c z
      · exact reprChar_lt hq (hl x List.mem_cons_self) c z
theorem uni_repr {x : Str} (h : Uni x) : Uni (reprText x) := by
  intro c hc
  have hq : reprQuote x < 1114112 := by unfold reprQuote; split <;> decide
  have e : (reprText x).cps.toList = (x.cps.foldl (fun out c => out ++ (reprChar (reprQuote x) c).toArray) #[reprQuote x]).toList ++ [reprQuote x] := by
    show (((x.cps.foldl (fun out c => out ++ (reprChar (reprQuote x) c).toArray) #[reprQuote x]).push (reprQuote x))).toList = _
    simp
  rw [e, ← Array.foldl_toList] at hc
  rcases List.mem_append.mp hc with z | z
  · exact fold_lt hq _ _ h (fun c hc => by simp at hc; omega) c z
  · simp at z; omega
theorem uni_join : ∀ ts : List Str, (∀ t ∈ ts, Uni t) → Uni (Str.join ", " ts)
  | [], _ => uni_str ""
  | [x], h => h x List.mem_cons_self
  | x :: y :: r, h => uni_app (uni_app (h x List.mem_cons_self) (uni_str ", ")) (uni_join (y :: r) fun t ht => h t (List.mem_cons_of_mem _ ht))
structure Wt (p : PyData) (n k : Nat) : Prop where
  nd : p.hasDict = false
  sh : p.showable = true
  len : p.shown.length ≤ n
  dp : p.depth ≤ k
  un : Uni p.shown
theorem Wt.mono {p : PyData} {n k m l : Nat} (h : Wt p n k) (a : n ≤ m) (b : k ≤ l) : Wt p m l := ⟨h.nd, h.sh, Nat.le_trans h.len a, Nat.le_trans h.dp b, h.un⟩
theorem wt_int {i : Int} (h0 : 0 ≤ i) (h : i < 1000000) : Wt (.int i) 90 0 := by
  refine ⟨by simp [PyData.hasDict], ?_, ?_, by simp [PyData.depth], by simpa [PyData.shown] using uni_str (toString i)⟩
  · have : i.natAbs.log2 < 1920 := by
      by_cases hz : i.natAbs = 0
      · rw [hz]; decide
      · have : i.natAbs.log2 < 20 := (Nat.log2_lt hz).mpr (by omega)
        omega
    simp [PyData.showable, this]
  · have e := int_text_length_le10 (a := i) (k := 6) (by decide) (by omega)
    simp only [PyData.shown]
    rw [PySem.ofString_length]
    omega
theorem wt_str {x : Str} (h : Uni x) (hl : x.length ≤ 8) : Wt (.str x) 90 0 := by
  refine ⟨by simp [PyData.hasDict], by simp [PyData.showable], ?_, by simp [PyData.depth], by simpa [PyData.shown] using uni_repr h⟩
  simp only [PyData.shown]
  have := StrLaws.reprText_len x fun c hc => Nat.lt_of_lt_of_le (h c hc) (by decide)
  omega
theorem all_facts {n k : Nat} : ∀ ps : List PyData, (∀ p ∈ ps, Wt p n k) → PyData.hasDictAll ps = false ∧ PyData.showableAll ps = true ∧ piled (PyData.shownAll ps) ≤ ps.length * (n + 2) ∧ PyData.depthAll ps ≤ k ∧ (∀ t ∈ PyData.shownAll ps, Uni t) ∧ (PyData.shownAll ps).length = ps.length
  | [], _ => ⟨by simp [PyData.hasDictAll], by simp [PyData.showableAll], by simp [PyData.shownAll, piled], by simp [PyData.depthAll], by simp [PyData.shownAll], by simp [PyData.shownAll]⟩
  | p :: ps, h => by
    obtain ⟨a, b, c, d, e, f⟩ := all_facts ps fun q hq => h q (List.mem_cons_of_mem _ hq)
    have w := h p List.mem_cons_self
    refine ⟨by simp [PyData.hasDictAll, w.nd, a], by simp [PyData.showableAll, w.sh, b], ?_, ?_, ?_, by simp [PyData.shownAll, f]⟩
    · simp only [PyData.shownAll, piled_cons, List.length_cons]
      have := w.len
      rw [Nat.succ_mul]
      omega
    · have := w.dp
      simp only [PyData.depthAll]
      omega
    · intro t ht
      simp only [PyData.shownAll, List.mem_cons] at ht
      rcases ht with rfl | ht
      · exact w.un
      · exact e t ht
theorem wt_tup {n k : Nat} {ps : List PyData} (h : ∀ p ∈ ps, Wt p n k) : Wt (.tuple ps) (ps.length * (n + 2) + 4) (k + 1) := by
  obtain ⟨a, b, c, d, e, f⟩ := all_facts ps h
  refine ⟨by simp [PyData.hasDict, a], by simp [PyData.showable, b], ?_, by simp [PyData.depth]; omega, ?_⟩
  · simp only [PyData.shown]
    unfold tupleText
    rw [strLen_append, strLen_append]
    have e1 : ((("(" : String) : Str)).length = 1 := rfl
    have e3 : (((if (PyData.shownAll ps).length == 1 then ",)" else ")" : String) : Str)).length ≤ 2 := by split <;> decide
    rw [e1]
    by_cases hz : PyData.shownAll ps = []
    · rw [hz] at e3 ⊢
      have : (Str.join ", " []).length = 0 := rfl
      omega
    · have := join_length_add _ hz
      omega
  · simp only [PyData.shown]
    unfold tupleText
    exact uni_app (uni_app (uni_str "(") (uni_join _ e)) (by split <;> exact uni_str _)
theorem wt_list {n k : Nat} {ps : List PyData} (h : ∀ p ∈ ps, Wt p n k) (h3 : ps.length = 3) : Wt (.list ps) (ps.length * (n + 2) + 4) (k + 1) := by
  obtain ⟨a, b, c, d, e, f⟩ := all_facts ps h
  obtain ⟨t1, t2, t3, et⟩ : ∃ t1 t2 t3, PyData.shownAll ps = [t1, t2, t3] := by
    rw [h3] at f
    match hh : PyData.shownAll ps, f with
    | [t1, t2, t3], _ => exact ⟨t1, t2, t3, rfl⟩
  rw [et] at c e
  have tx : listText [t1, t2, t3] = ((((("[" : Str) ++ ("" : String) ++ t1) ++ (", " : String) ++ t2) ++ (", " : String) ++ t3) ++ "]" : Str) := rfl
  refine ⟨by simp [PyData.hasDict, a], by simp [PyData.showable, b], ?_, by simp [PyData.depth]; omega, ?_⟩
  · simp only [PyData.shown, et, tx, strLen_append]
    simp only [piled_cons, piled_nil] at c
    have e1 : ((("[" : String) : Str)).length = 1 := rfl
    have e2 : (((", " : String) : Str)).length = 2 := rfl
    have e3 : ((("]" : String) : Str)).length = 1 := rfl
    have e4 : ((("" : String) : Str)).length = 0 := rfl
    rw [e1, e2, e3, e4]
    omega
  · simp only [PyData.shown, et, tx]
    have u := fun s => uni_str s
    exact uni_app (uni_app (uni_app (uni_app (uni_app (uni_app (uni_app (u "[") (u "")) (e t1 (by simp))) (u ", ")) (e t2 (by simp))) (u ", ")) (e t3 (by simp))) (u "]")
theorem okP_of {p : PyData} {n k : Nat} (h : Wt p n k) (hn : n ≤ 16777216) (hk : k ≤ 32) : okP p = true := by
  unfold okP lim
  simp only [Bool.and_eq_true, decide_eq_true_eq, Bool.not_eq_true']
  exact ⟨⟨⟨h.nd, h.sh⟩, Nat.le_trans h.dp hk⟩, Nat.le_trans h.len hn⟩
end Lw

set_option Elab.async false
set_option linter.all false
set_option maxRecDepth 100000
set_option maxHeartbeats 4000000
namespace Lw
open PySem PySem.Spec PyProof.Rows L2 Tr
def Sx (x : Str) : Prop := Uni x ∧ x.length ≤ 8
def Ii (i : Int) : Prop := 0 ≤ i ∧ i < 1000000
def Dd.Sm : Dd → Prop
  | .dish w i => Sx w ∧ Ii i
  | .change i x => Ii i ∧ Sx x
  | .ask i x k ss => Ii i ∧ Sx x ∧ Ii k ∧ ss.length ≤ 4 ∧ ∀ s ∈ ss, Sx s
  | .stove w t k => Sx w ∧ Sx t ∧ Ii k
  | .even ss => ss.length ≤ 4 ∧ ∀ s ∈ ss, Sx s
  | .pair w a b => Sx w ∧ Sx a ∧ Sx b
  | .go a => Sx a
  | .pay a i => Sx a ∧ Ii i
  | .take a b i => Sx a ∧ Sx b ∧ Ii i
instance (x : Str) : Decidable (Uni x) := by unfold Uni; exact inferInstance
instance (x : Str) : Decidable (Sx x) := by unfold Sx; exact inferInstance
theorem tags_ok : ∀ x ∈ (["ask", "change", "even", "go", "pay", "take", "serve", "back", "strike", "fire", "rush", "sit", "move", "join", "zzz"] : List Str), Sx x := by decide +kernel
theorem items_ok : ∀ x ∈ wItems, Sx x := by decide +kernel
theorem seats_ok : ∀ x ∈ wSeats, Sx x := by decide +kernel
theorem tables_ok : ∀ x ∈ wTables, Sx x := by decide +kernel
theorem pool_ok : ∀ x ∈ wPool, Sx x := by decide +kernel
theorem in_ii {i : Int} (h : In i) : Ii i := ⟨h.1, by have := h.2; omega⟩
theorem good_sm {E : List Str} (hE : ∀ x ∈ E, Sx x) {d : Dd} (h : d.Good E) : d.Sm := by
  have tag := fun x hx => tags_ok x hx
  cases d with
  | dish w i => exact ⟨by rcases h.1 with rfl | rfl | rfl <;> exact tag _ (by simp), in_ii h.2⟩
  | change i x => exact ⟨in_ii h.1, items_ok x h.2⟩
  | ask i x k ss => exact ⟨in_ii h.1, items_ok x h.2.1, in_ii h.2.2.1, h.2.2.2.1, fun s hs => hE s (h.2.2.2.2 s hs)⟩
  | stove w t k => exact ⟨by rcases h.1 with rfl | rfl <;> exact tag _ (by simp), hE t h.2.1, in_ii h.2.2⟩
  | even ss => exact ⟨h.1, fun s hs => hE s (h.2 s hs)⟩
  | pair w a b => exact ⟨by rcases h.1 with rfl | rfl | rfl <;> exact tag _ (by simp), hE a h.2.1, hE b h.2.2⟩
  | go a => exact hE a h
  | pay a i => exact ⟨hE a h.1, in_ii h.2⟩
  | take a b i => exact ⟨hE a h.1, hE b h.2.1, in_ii h.2.2⟩
theorem ren_sm {g : Str → Str} (hg : ∀ x, Sx x → Sx (g x)) {d : Dd} (h : d.Sm) : (d.ren g).Sm := by
  cases d with
  | dish w i => exact h
  | change i x => exact h
  | ask i x k ss => exact ⟨h.1, h.2.1, h.2.2.1, by simpa using h.2.2.2.1, fun s hs => by obtain ⟨y, hy, rfl⟩ := List.mem_map.mp hs; exact hg y (h.2.2.2.2 y hy)⟩
  | stove w t k => exact ⟨h.1, hg t h.2.1, h.2.2⟩
  | even ss => exact ⟨by simpa using h.1, fun s hs => by obtain ⟨y, hy, rfl⟩ := List.mem_map.mp hs; exact hg y (h.2 y hy)⟩
  | pair w a b => exact ⟨h.1, hg a h.2.1, hg b h.2.2⟩
  | go a => exact hg a h
  | pay a i => exact ⟨hg a h.1, h.2⟩
  | take a b i => exact ⟨hg a h.1, hg b h.2.1, h.2.2⟩
theorem ren_good {g : Str → Str} {E : List Str} {d : Dd} (h : d.Good E) : (d.ren g).Good (E.map g) := by
  have m : ∀ {x}, x ∈ E → g x ∈ E.map g := fun hx => List.mem_map_of_mem hx
  cases d with
  | dish w i => exact h
  | change i x => exact h
  | ask i x k ss => exact ⟨h.1, h.2.1, h.2.2.1, by simpa using h.2.2.2.1, fun s hs => by obtain ⟨y, hy, rfl⟩ := List.mem_map.mp hs; exact m (h.2.2.2.2 y hy)⟩
  | stove w t k => exact ⟨h.1, m h.2.1, h.2.2⟩
  | even ss => exact ⟨by simpa using h.1, fun s hs => by obtain ⟨y, hy, rfl⟩ := List.mem_map.mp hs; exact m (h.2 y hy)⟩
  | pair w a b => exact ⟨h.1, m h.2.1, m h.2.2⟩
  | go a => exact m h
  | pay a i => exact ⟨m h.1, h.2⟩
  | take a b i => exact ⟨m h.1, m h.2.1, h.2.2⟩
theorem ren_back {g k : Str → Str} {E : List Str} (hk : ∀ x ∈ E, k (g x) = x) {d : Dd} (h : d.Good E) : (d.ren g).ren k = d := by
  have ms : ∀ ss : List Str, (∀ s ∈ ss, s ∈ E) → (ss.map g).map k = ss := fun ss hs => by
    rw [List.map_map]
    exact (List.map_congr_left fun s q => hk s (hs s q)).trans (List.map_id ss)
  cases d with
  | dish w i => rfl
  | change i x => rfl
  | ask i x k' ss => simp only [Dd.ren, ms ss h.2.2.2.2]
  | stove w t k' => simp only [Dd.ren, hk t h.2.1]
  | even ss => simp only [Dd.ren, ms ss h.2]
  | pair w a b => simp only [Dd.ren, hk a h.2.1, hk b h.2.2]
  | go a => simp only [Dd.ren, hk a h]
  | pay a i => simp only [Dd.ren, hk a h.1]
  | take a b i => simp only [Dd.ren, hk a h.1, hk b h.2.1]
theorem ren_id (d : Dd) : d.ren (wordOf []) = d := by
  have e : wordOf [] = id := funext word_nil
  rw [e]
  cases d <;> simp [Dd.ren]
theorem pg_id (p : Pg) : Pg.ren (wordOf []) 0 p = p := by
  obtain ⟨m, k, d⟩ := p
  simp [Pg.ren, ren_id]
/-- a word's new one is one of the new words, or itself -/
theorem fold_val : ∀ (ps : List (Str × Str)) (acc : List (Key × D)) (x : Key) (d : D), getG ((ps.map prK).foldl (fun a p => putG a p.1 p.2) acc) x = some d → getG acc x = some d ∨ ∃ p ∈ ps, d = .str p.2
  | [], acc, x, d, e => .inl e
  | p :: ps, acc, x, d, e => by
    rcases fold_val ps (putG acc (prK p).1 (prK p).2) x d e with h | ⟨q, hq, rfl⟩
    · rw [get_put] at h
      split at h
      · cases h
        exact .inr ⟨p, List.mem_cons_self, rfl⟩
      · exact .inl h
    · exact .inr ⟨q, List.mem_cons_of_mem _ hq, rfl⟩
theorem word_mem (ps : List (Str × Str)) (x : Str) : wordOf ps x = x ∨ ∃ p ∈ ps, wordOf ps x = p.2 := by
  unfold wordOf
  cases e : getG (mergeD (ps.map prK)) (.inr x) with
  | none => exact .inl rfl
  | some d =>
    rcases fold_val ps [] _ d e with h | ⟨p, hp, rfl⟩
    · cases h
    · exact .inr ⟨p, hp, rfl⟩
theorem word_sx {ps : List (Str × Str)} (h : ∀ p ∈ ps, Sx p.2) : ∀ x, Sx x → Sx (wordOf ps x) := fun x hx => by
  rcases word_mem ps x with e | ⟨p, hp, e⟩
  · rw [e]; exact hx
  · rw [e]; exact h p hp
/-! a book as data -/
def Pg.pd (p : Pg) : PyData := .tuple [.tuple [.int p.m, .int p.k], p.d.pd]
def Pg.Sm (p : Pg) : Prop := Ii p.m ∧ Ii p.k ∧ p.d.Sm
theorem wx {x : Str} (h : Sx x) : Wt (.str x) 400 1 := (wt_str h.1 h.2).mono (by decide) (by decide)
theorem wi {i : Int} (h : Ii i) : Wt (.int i) 400 1 := (wt_int h.1 h.2).mono (by decide) (by decide)
theorem wss {ss : List Str} (hl : ss.length ≤ 4) (h : ∀ s ∈ ss, Sx s) : Wt (.tuple (ss.map .str)) 400 1 := by
  refine (wt_tup (n := 90) (k := 0) fun p hp => ?_).mono (by rw [List.length_map]; omega) (by decide)
  obtain ⟨s, hs, rfl⟩ := List.mem_map.mp hp
  exact wt_str (h s hs).1 (h s hs).2
theorem all2 {P : PyData → Prop} {a b : PyData} (h1 : P a) (h2 : P b) : ∀ p ∈ [a, b], P p := by
  intro p hp
  simp at hp
  rcases hp with rfl | rfl
  · exact h1
  · exact h2
theorem all3 {P : PyData → Prop} {a b c : PyData} (h1 : P a) (h2 : P b) (h3 : P c) : ∀ p ∈ [a, b, c], P p := by
  intro p hp
  simp at hp
  rcases hp with rfl | rfl | rfl
  · exact h1
  · exact h2
  · exact h3
theorem dd_wt {d : Dd} (h : d.Sm) : Wt d.pd 2100 2 := by
  have tag := fun x hx => wx (tags_ok x hx)
  cases d with
  | dish w i => exact (wt_tup (all2 (wx h.1) (wi h.2))).mono (by simp) (by decide)
  | change i x => exact (wt_tup (all3 (tag "change" (by simp)) (wi h.1) (wx h.2))).mono (by simp) (by decide)
  | ask i x k ss =>
    refine (wt_tup (n := 400) (k := 1) fun p hp => ?_).mono (by simp) (by decide)
    simp at hp
    rcases hp with rfl | rfl | rfl | rfl | rfl
    · exact tag _ (by simp)
    · exact wi h.1
    · exact wx h.2.1
    · exact wi h.2.2.1
    · exact wss h.2.2.2.1 h.2.2.2.2
  | stove w t k => exact (wt_tup (all3 (wx h.1) (wx h.2.1) (wi h.2.2))).mono (by simp) (by decide)
  | even ss => exact (wt_tup (all2 (tag "even" (by simp)) (wss h.1 h.2))).mono (by simp) (by decide)
  | pair w a b => exact (wt_tup (all3 (wx h.1) (wx h.2.1) (wx h.2.2))).mono (by simp) (by decide)
  | go a => exact (wt_tup (all2 (tag "go" (by simp)) (wx h))).mono (by simp) (by decide)
  | pay a i => exact (wt_tup (all3 (tag "pay" (by simp)) (wx h.1) (wi h.2))).mono (by simp) (by decide)
  | take a b i =>
    refine (wt_tup (n := 400) (k := 1) fun p hp => ?_).mono (by simp) (by decide)
    simp at hp
    rcases hp with rfl | rfl | rfl | rfl
    · exact tag _ (by simp)
    · exact wx h.1
    · exact wx h.2.1
    · exact wi h.2.2
theorem pg_wt {p : Pg} (h : p.Sm) : Wt p.pd 4300 3 :=
  (wt_tup (all2 ((wt_tup (all2 (wi h.1) (wi h.2.1))).mono (by simp) (by decide)) ((dd_wt h.2.2).mono (Nat.le_refl 2100) (Nat.le_refl 2)))).mono (by simp) (by decide)
def bookP (pgs : List Pg) : PyData := .tuple (pgs.map Pg.pd)
theorem book_wt {pgs : List Pg} (hl : pgs.length ≤ 30) (h : ∀ p ∈ pgs, p.Sm) : Wt (bookP pgs) 130000 4 := by
  refine (wt_tup (n := 4300) (k := 3) fun p hp => ?_).mono (by rw [List.length_map]; omega) (by decide)
  obtain ⟨g, hg, rfl⟩ := List.mem_map.mp hp
  exact pg_wt (h g hg)
theorem pgs_pd (f : Nat → Option PyData) : ∀ pgs : List Pg, pdsW f (pgs.map Pg.toD) = some (pgs.map Pg.pd)
  | [] => rfl
  | p :: pgs => by
    have ih := pgs_pd f pgs
    simp [pdsW, pdW, Pg.toD, Pg.pd, toD_pd, ih]
theorem book_pd (f : Nat → Option PyData) (pgs : List Pg) : pdW f (bookD pgs) = some (bookP pgs) := by
  simp [bookD, bookP, pdW, pgs_pd]
def pairsP (ps : List (Str × Str)) : PyData := .tuple (ps.map fun p => .tuple [.str p.1, .str p.2])
theorem prs_pd (f : Nat → Option PyData) : ∀ ps : List (Str × Str), pdsW f (ps.map prD) = some (ps.map fun p => .tuple [.str p.1, .str p.2])
  | [] => rfl
  | p :: ps => by
    have ih := prs_pd f ps
    simp [pdsW, pdW, prD, ih]
theorem pairs_wt {ps : List (Str × Str)} (hl : ps.length ≤ 10) (h : ∀ p ∈ ps, Sx p.1 ∧ Sx p.2) : Wt (pairsP ps) 130000 4 := by
  refine (wt_tup (n := 900) (k := 2) fun p hp => ?_).mono (by rw [List.length_map]; omega) (by decide)
  obtain ⟨g, hg, rfl⟩ := List.mem_map.mp hp
  exact (wt_tup (all2 (wx (h g hg).1) (wx (h g hg).2))).mono (by simp) (by decide)
/-! repr -/
theorem repr_t {x : D} {ps : List PyData} {n k : Nat} {M : Mem} {Q : D → Mem → Prop} (h : Tr.pd M x = some (.tuple ps)) (w : Wt (.tuple ps) n k) (hn : n ≤ 16777216) (hk : k ≤ 32) : wpR (gRepr [x] M) Q = Q (.str (PyData.shown (.tuple ps))) M := by
  unfold gRepr
  dsimp only
  rw [h]
  dsimp only
  rw [if_pos (okP_of w hn hk)]
  rfl
theorem repr_l {x : D} {ps : List PyData} {n k : Nat} {M : Mem} {Q : D → Mem → Prop} (h : Tr.pd M x = some (.list ps)) (w : Wt (.list ps) n k) (hn : n ≤ 16777216) (hk : k ≤ 32) : wpR (gRepr [x] M) Q = Q (.str (PyData.shown (.list ps))) M := by
  unfold gRepr
  dsimp only
  rw [h]
  dsimp only
  rw [if_pos (okP_of w hn hk)]
  rfl
theorem repr_book {pgs : List Pg} {M : Mem} {Q : D → Mem → Prop} (hl : pgs.length ≤ 30) (h : ∀ p ∈ pgs, p.Sm) : wpR (gRepr [bookD pgs] M) Q = Q (.str (bookP pgs).shown) M :=
  repr_t (book_pd _ pgs) (book_wt hl h) (by decide) (by decide)
/-- [s, s] != [s, s] -/
theorem ne_strs {a b : Nat} {s : Str} {M : Mem} {Q : D → Mem → Prop} (h1 : M[a]? = some (.lst [.str s, .str s])) (h2 : M[b]? = some (.lst [.str s, .str s])) (hs : SOk s) : wpR (gNe (.obj a) (.obj b) M) Q = Q (.bl false) M := by
  have p1 : Tr.pd M (.obj a) = some (.list [.str s, .str s]) := by
    show pdO M 4 a = _
    simp only [pdO, h1, pdsW, pdW, Option.map_some]
  have p2 : Tr.pd M (.obj b) = some (.list [.str s, .str s]) := by
    show pdO M 4 b = _
    simp only [pdO, h2, pdsW, pdW, Option.map_some]
  have hs' : PyData.strOk s = true := hs
  have sh : SeqAt.shaped (.list [.str s, .str s]) = true := by
    show (PyData.canLay0 (.list [.str s, .str s]) && decide (PyData.depth (.list [.str s, .str s]) ≤ 64)) = true
    simp [PyData.canLay0, PyData.canLayAll0, PyData.depth, PyData.depthAll, hs']
  have e : eqD M (.obj a) (.obj b) = some true := by
    unfold eqD
    rw [show scalD (.obj a) (.obj b) = none from rfl, p1, p2]
    dsimp only
    rw [if_pos ⟨sh, sh⟩]
    simp [PyData.eqv, PyData.eqvAll]
  unfold gNe
  rw [e]
  rfl
end Lw

set_option Elab.async false
set_option linter.all false
set_option maxRecDepth 100000
set_option maxHeartbeats 4000000
namespace Lw
open PySem PySem.Spec PyProof.Rows L2 Tr
@[simp] theorem wp_un {g : D → Mem → R D} {fa : EF} {env : DEnv} {M : Mem} {Q : D → Mem → Prop} : wpR (eUn g fa env M) Q = wpR (fa env M) fun x M1 => wpR (g x M1) Q := by simp [eUn]
theorem ca_p {F : FF} {a b c : D} {M : Mem} : callD 3 0 [.p 0, .p 1, .p 2] dfl_renamed F [a, b, c] [] M = F [a, b, c] M := rfl
theorem ca_k3 {F : FF} {a b c : D} {M : Mem} : callD 0 3 [.k 1, .k 2, .k 0] dfl_renamed F [] [a, b, c] M = F [b, c, a] M := rfl
theorem ca_2 {F : FF} {a b : D} {M : Mem} : callD 2 0 [.p 0, .p 1, .d 1] dfl_renamed F [a, b] [] M = F [a, b, .int 0] M := rfl
theorem ca_1l {F : FF} {a b : D} {M : Mem} : callD 1 1 [.p 0, .d 0, .k 0] dfl_renamed F [a] [b] M = F [a, .non, b] M := rfl
theorem ca_1w {F : FF} {a b : D} {M : Mem} : callD 1 1 [.p 0, .k 0, .d 1] dfl_renamed F [a] [b] M = F [a, b, .int 0] M := rfl
theorem ca_1 {F : FF} {a : D} {M : Mem} : callD 1 0 [.p 0, .d 0, .d 1] dfl_renamed F [a] [] M = F [a, .non, .int 0] M := rfl
theorem isi_book {pgs : List Pg} {M : Mem} : gIsi [bookD pgs, .ty "tuple"] M = .ok (.bl true) M := by
  unfold bookD
  kernel_rfl
theorem gNe_self (s : Str) (M : Mem) : gNe (.str s) (.str s) M = .ok (.bl false) M := by
  simp [gNe, eqD, scalD]
theorem gEq_self (s : Str) (M : Mem) : gEq (.str s) (.str s) M = .ok (.bl true) M := by
  simp [gEq, eqD, scalD]
theorem neg_one (M : Mem) : gNeg (.int 1) M = .ok (.int (-1)) M := rfl
theorem feed_ok (ns : List Int) : ∃ M, F__law_feed [.klst (ns.map D.int)] [] = .ok (.obj 2) M ∧ Feed 2 1 (ns.take 63) M 0 := by
  have e : Tr.cutD (ns.map D.int) none (some 63) = (ns.take 63).map D.int := by
    unfold Tr.cutD
    rw [show (63 : Int) = ((63 : Nat) : Int) from rfl, HT.sIx_nat, HT.sIx_none, Nat.sub_zero, List.drop_zero, List.map_take, List.length_map]
    by_cases h : 63 ≤ ns.length
    · rw [Nat.min_eq_left h]
    · rw [Nat.min_eq_right (by omega), List.take_of_length_le (by simp), List.take_of_length_le (by simp; omega)]
  have h : wpR (F__law_feed [.klst (ns.map D.int)] []) fun d M => d = .obj 2 ∧ Feed 2 1 (ns.take 63) M 0 := by
    unfold F__law_feed B__law_feed
    rw [wp_run]
    have s1 : ∀ S : D → Mem → Prop, wpR (gSl (.klst (ns.map D.int)) none (some 63) []) S = S (.obj 0) [.lst ((ns.take 63).map D.int)] := fun S => by
      rw [← e]
      rfl
    have s2 : ∀ S : D → Mem → Prop, wpR (gList [.obj 0] [.lst ((ns.take 63).map D.int)]) S = S (.obj 1) [.lst ((ns.take 63).map D.int), .lst ((ns.take 63).map D.int)] := fun S => rfl
    simp only [wp_seq, wp_pass, wp_never, wp_expr, wp_ret, wp_retN, wp_ifS, wp_set, wp_asg, wp_par, wp_par3, wp_var, wp_K, wp_anil, wp_acons, wp_bin, wp_tup, wp_tupK, wp_lst, wp_call, wp_cb, wp_ifE, wp_tOf, wp_tAnd, wp_tOr, wp_tNot, wp_tYes, wp_and, wp_sl, wp_oN, wp_oS, wp_mt, wp_kget, wp_gname, wp_gtup, wp_gnil, wp_gcons, wp_gsub, wpR_ok, wpR_bad, wpR_bind, wpR_no, wpS_ok_nx, wpS_ok_rt, wpS_bad, wp_add, wp_sub, wp_mul, wp_mod, wp_fdiv, wp_pow, wp_lt, wp_le, wp_gt, wp_ge, wp_eqI, wp_neI, wp_eqS, wp_neS, Tr.ix_tup, len_tup, call1, call2, call3, call4, wipeD, startD, tupD, List.map_cons, List.map_nil, List.length_cons, List.length_nil, List.replicate, List.cons_append, List.nil_append, List.getElem?_cons_zero, List.getElem?_cons_succ, List.set_cons_zero, List.set_cons_succ, atI_0, atI_1, atI_2, atI_3, atI_4, atI_5, if_true, Bool.false_eq_true, if_false, lim_0, lim_1, lim_2, lim_3, lim_4, lim_5, true_and, Nat.sub_zero, s1, s2]
    exact ⟨by decide, ⟨0, 0, rfl, by decide, by decide⟩, rfl⟩
  obtain ⟨d, M, e1, rfl, h2⟩ := wpR_ex h
  exact ⟨M, e1, h2⟩
theorem zip_swap : ∀ (l m : List Str), (l.zip m).map (fun p => (p.2, p.1)) = m.zip l
  | [], m => by cases m <;> rfl
  | x :: l, [] => rfl
  | x :: l, y :: m => by simp [zip_swap l m]
theorem law_good (ns : List Int) (hl : ns.length ≤ 63) : ∃ M', F_law [.klst (ns.map D.int)] [] = .ok (.bl true) M' := by
  suffices h : wpR (F_law [.klst (ns.map D.int)] []) fun d _ => d = .bl true by
    obtain ⟨d, M, e, rfl⟩ := wpR_ex h
    exact ⟨M, e⟩
  obtain ⟨M0, e0, f0⟩ := feed_ok ns
  unfold F_law B_law
  rw [wp_run]
  try simp only [wp_seq, wp_pass, wp_never, wp_expr, wp_ret, wp_retN, wp_ifS, wp_set, wp_asg, wp_par, wp_par3, wp_var, wp_K, wp_anil, wp_acons, wp_bin, wp_tup, wp_tupK, wp_lst, wp_call, wp_cb, wp_ifE, wp_tOf, wp_tAnd, wp_tOr, wp_tNot, wp_tYes, wp_and, wp_sl, wp_oN, wp_oS, wp_mt, wp_kget, wp_gname, wp_gtup, wp_gnil, wp_gcons, wp_gsub, wpR_ok, wpR_bad, wpR_bind, wpR_no, wpS_ok_nx, wpS_ok_rt, wpS_bad, wp_add, wp_sub, wp_mul, wp_mod, wp_fdiv, wp_pow, wp_lt, wp_le, wp_gt, wp_ge, wp_eqI, wp_neI, wp_eqS, wp_neS, Tr.ix_tup, len_tup, call1, call2, call3, call4, wipeD, startD, tupD, List.map_cons, List.map_nil, List.length_cons, List.length_nil, List.replicate, List.cons_append, List.nil_append, List.getElem?_cons_zero, List.getElem?_cons_succ, List.set_cons_zero, List.set_cons_succ, atI_0, atI_1, atI_2, atI_3, atI_4, atI_5, if_true, Bool.false_eq_true, if_false, lim_0, lim_1, lim_2, lim_3, lim_4, lim_5, true_and, Nat.sub_zero, e0]
  generalize ns.take 63 = cs at f0
  clear e0
  with_reducible refine house_wp f0 (by omega) fun rows offs ha hb M1 hr4 hr1 hrow f1 x1 => ?_
  with_reducible refine guests_wp f1 (by omega) fun s t seats tables M2 hs2 hs4 ht2 ht3 hsw htw hsl htl hst hs ht f2 x2 => ?_
  have l1 := f1.lf
  have hsf : s ≠ 2 ∧ t ≠ 2 := by omega
  try simp only [wp_seq, wp_pass, wp_never, wp_expr, wp_ret, wp_retN, wp_ifS, wp_set, wp_asg, wp_par, wp_par3, wp_var, wp_K, wp_anil, wp_acons, wp_bin, wp_tup, wp_tupK, wp_lst, wp_call, wp_cb, wp_ifE, wp_tOf, wp_tAnd, wp_tOr, wp_tNot, wp_tYes, wp_and, wp_sl, wp_oN, wp_oS, wp_mt, wp_kget, wp_gname, wp_gtup, wp_gnil, wp_gcons, wp_gsub, wpR_ok, wpR_bad, wpR_bind, wpR_no, wpS_ok_nx, wpS_ok_rt, wpS_bad, wp_add, wp_sub, wp_mul, wp_mod, wp_fdiv, wp_pow, wp_lt, wp_le, wp_gt, wp_ge, wp_eqI, wp_neI, wp_eqS, wp_neS, Tr.ix_tup, len_tup, call1, call2, call3, call4, wipeD, startD, tupD, List.map_cons, List.map_nil, List.length_cons, List.length_nil, List.replicate, List.cons_append, List.nil_append, List.getElem?_cons_zero, List.getElem?_cons_succ, List.set_cons_zero, List.set_cons_succ, atI_0, atI_1, atI_2, atI_3, atI_4, atI_5, if_true, Bool.false_eq_true, if_false, lim_0, lim_1, lim_2, lim_3, lim_4, lim_5, true_and, Nat.sub_zero]
  with_reducible refine next_wp f2 (by omega) (by omega) (by omega) fun many M3 a3 b3 f3 x3 => ?_
  obtain ⟨k, rfl⟩ : ∃ k : Nat, many = (k : Int) := ⟨many.toNat, by omega⟩
  obtain ⟨ev, hev⟩ : ∃ ev, ev = sortS (dedupS (seats ++ tables)) := ⟨_, rfl⟩
  have evm : ∀ x, x ∈ ev ↔ x ∈ seats ∨ x ∈ tables := fun x => by rw [hev, sortS_mem, dedup_mem, List.mem_append]
  have evn : ev.Nodup := by rw [hev]; exact (sortS_perm _).nodup_iff.mpr (dedup_nodup _)
  have evx : ∀ x ∈ ev, Sx x := fun x hx => ((evm x).mp hx).elim (fun z => seats_ok x (hsw x z)) fun z => tables_ok x (htw x z)
  have evu : ∀ x ∈ ev, SOk x := fun x hx => uni_ok (evx x hx).1
  have evl : ev.length ≤ 10 := by
    have h1 : ∀ l : List Str, (dedupS l).length ≤ l.length := fun l => by
      induction l with
      | nil => exact Nat.le_refl _
      | cons y r ih => unfold dedupS; split <;> simp <;> omega
    rw [hev, sortS_len]
    have := h1 (seats ++ tables)
    rw [List.length_append] at this
    omega
  have ev1 : 1 ≤ ev.length := by
    match hh : seats, hs2 with
    | x :: r, _ =>
      have : x ∈ ev := (evm x).mpr (.inl (by simp))
      exact List.length_pos_of_mem this
  have s3 := x3.get (by simpa using hsf.1) hs
  have t3 := x3.get (by simpa using hsf.2) ht
  with_reducible refine pages_wp (E := ev) f3 (by omega) hr1 hr4 hrow s3 hsf.1 hs2 hs4 (fun x hx => (evm x).mpr (.inl hx)) t3 hsf.2 ht2 ht3 (fun x hx => (evm x).mpr (.inr hx)) evu (by omega) fun o pgs M4 ho hol hpl hpg f4 x4 => ?_
  rw [tup_obj ho]
  have s4 := x4.get (by simpa using hsf.1) s3
  have t4 := x4.get (by simpa using hsf.2) t3
  rw [add_obj s4 t4 (by rw [List.length_map, List.length_map]; unfold lim; omega), ← List.map_append, sortset_obj get_new (by rw [List.length_append]; omega), ← hev]
  have f5 := ((f4.push [.lst ((seats ++ tables).map D.str)]).push [.lst (ev.map D.str)]).mono (show 0 + 100 + 20 + 1 + 1000 ≤ 1200 by omega)
  have e5 : (M4 ++ [MO.lst ((seats ++ tables).map D.str)] ++ [MO.lst (ev.map D.str)])[(M4 ++ [MO.lst ((seats ++ tables).map D.str)]).length]? = some (.lst (ev.map .str)) := get_new
  have l4 := f4.lf
  have he2 : (M4 ++ [MO.lst ((seats ++ tables).map D.str)]).length ≠ 2 := by simp; omega
  generalize M4 ++ [MO.lst ((seats ++ tables).map D.str)] ++ [MO.lst (ev.map D.str)] = M5 at f5 e5
  generalize (M4 ++ [MO.lst ((seats ++ tables).map D.str)]).length = e at e5 he2
  clear f0 x1 x2 x3 x4 s3 t3 s4 t4 f1 f2 f3 f4 hs ht l4
  have hgood : ∀ p ∈ pgs, p.d.Good ev := fun p hp => (hpg p hp).2.2
  have hsm : ∀ p ∈ pgs, p.Sm := fun p hp => ⟨in_ii (hpg p hp).1, in_ii (hpg p hp).2.1, good_sm evx (hgood p hp)⟩
  have hrsm : ∀ (ps : List (Str × Str)) (later : Int), (∀ p ∈ ps, Sx p.2) → 0 ≤ later → later ≤ 7000 → ∀ p ∈ pgs.map (Pg.ren (wordOf ps) later), p.Sm := fun ps later hps l0 l1 p hp => by
    obtain ⟨g, hg, rfl⟩ := List.mem_map.mp hp
    have := hpg g hg
    have i1 := this.1
    exact (show Ii (g.m + later) ∧ Ii g.k ∧ (g.d.ren (wordOf ps)).Sm from ⟨⟨by have := i1.1; omega, by have := i1.2; omega⟩, in_ii this.2.1, ren_sm (word_sx hps) (good_sm evx (hgood g hg))⟩)
  have hrl : ∀ (ps : List (Str × Str)) (later : Int), (pgs.map (Pg.ren (wordOf ps) later)).length ≤ 30 := fun ps later => by rw [List.length_map]; omega
  rw [show D.tup (pgs.map Pg.toD) = bookD pgs from rfl]
  generalize D.klst (ns.map D.int) = A0
  generalize D.tup [D.tup rows, D.tup offs, D.int ha, D.int hb] = A2
  generalize D.tup [D.obj s, D.obj t] = A3
  have pl30 : pgs.length ≤ 30 := by omega
  have pid : ∀ l : List Pg, l.map (Pg.ren (wordOf []) 0) = l := fun l => by
    rw [show Pg.ren (wordOf []) 0 = id from funext pg_id, List.map_id]
  have npd : ∀ (M : Mem) (pr : List (Str × Str)), Tr.pd M (.tup [bookD pgs, .ktup (pr.map prD)]) = some (.tuple [bookP pgs, pairsP pr]) := fun M pr => by
    simp only [Tr.pd, pdW, pdsW, book_pd, prs_pd, pairsP, Option.map_some]
  have nil_sx : ∀ p ∈ ([] : List (Str × Str)), Sx p.2 := fun p hp => by cases hp
  have k0 : D.ktup [] = D.ktup (([] : List (Str × Str)).map prD) := rfl
  with_reducible refine for_wp ?_
  obtain ⟨I, hI⟩ : ∃ I : Nat → DEnv → Mem → Prop, ∀ i env M', I i env M' ↔ ∃ (w6 w7 w8 w9 w10 w11 w12 w13 w14 w15 : Option D), env = [some A0, some (.obj 2), some A2, some A3, some (bookD pgs), some (.obj e), w6, w7, w8, w9, w10, w11, w12, w13, w14, w15] ∧
    M'[e]? = some (.lst (ev.map .str)) ∧ Feed 2 1 cs M' (1200 + 100 * i) := ⟨_, fun _ _ _ => Iff.rfl⟩
  simp only [wp_irng, wp_seq, wp_pass, wp_never, wp_expr, wp_ret, wp_retN, wp_ifS, wp_set, wp_asg, wp_par, wp_par3, wp_var, wp_K, wp_anil, wp_acons, wp_bin, wp_tup, wp_tupK, wp_lst, wp_call, wp_cb, wp_ifE, wp_tOf, wp_tAnd, wp_tOr, wp_tNot, wp_tYes, wp_and, wp_sl, wp_oN, wp_oS, wp_mt, wp_kget, wp_gname, wp_gtup, wp_gnil, wp_gcons, wp_gsub, wpR_ok, wpR_bad, wpR_bind, wpR_no, wpS_ok_nx, wpS_ok_rt, wpS_bad, wp_add, wp_sub, wp_mul, wp_mod, wp_fdiv, wp_pow, wp_lt, wp_le, wp_gt, wp_ge, wp_eqI, wp_neI, wp_eqS, wp_neS, Tr.ix_tup, len_tup, call1, call2, call3, call4, wipeD, startD, tupD, List.map_cons, List.map_nil, List.length_cons, List.length_nil, List.replicate, List.cons_append, List.nil_append, List.getElem?_cons_zero, List.getElem?_cons_succ, List.set_cons_zero, List.set_cons_succ, atI_0, atI_1, atI_2, atI_3, atI_4, atI_5, if_true, Bool.false_eq_true, if_false, lim_0, lim_1, lim_2, lim_3, lim_4, lim_5, true_and, Nat.sub_zero]
  refine ⟨r62_small (by decide) (by decide), I, (hI _ _ _).mpr ⟨_, _, _, _, _, _, _, _, _, _, rfl, e5, f5⟩, ?_, ?_⟩
  · intro i env M' hi hh
    obtain ⟨w6, w7, w8, w9, w10, w11, w12, w13, w14, w15, rfl, he, hf⟩ := (hI _ _ _).mp hh
    have hi' : i < 2 := by simpa [itR] using hi
    refine ⟨_, itR_in (by simpa using hi'), ?_⟩
    try simp only [wp_seq, wp_pass, wp_never, wp_expr, wp_ret, wp_retN, wp_ifS, wp_set, wp_asg, wp_par, wp_par3, wp_var, wp_K, wp_anil, wp_acons, wp_bin, wp_tup, wp_tupK, wp_lst, wp_call, wp_cb, wp_ifE, wp_tOf, wp_tAnd, wp_tOr, wp_tNot, wp_tYes, wp_and, wp_sl, wp_oN, wp_oS, wp_mt, wp_kget, wp_gname, wp_gtup, wp_gnil, wp_gcons, wp_gsub, wpR_ok, wpR_bad, wpR_bind, wpR_no, wpS_ok_nx, wpS_ok_rt, wpS_bad, wp_add, wp_sub, wp_mul, wp_mod, wp_fdiv, wp_pow, wp_lt, wp_le, wp_gt, wp_ge, wp_eqI, wp_neI, wp_eqS, wp_neS, Tr.ix_tup, len_tup, call1, call2, call3, call4, wipeD, startD, tupD, List.map_cons, List.map_nil, List.length_cons, List.length_nil, List.replicate, List.cons_append, List.nil_append, List.getElem?_cons_zero, List.getElem?_cons_succ, List.set_cons_zero, List.set_cons_succ, atI_0, atI_1, atI_2, atI_3, atI_4, atI_5, if_true, Bool.false_eq_true, if_false, lim_0, lim_1, lim_2, lim_3, lim_4, lim_5, true_and, Nat.sub_zero, len_obj he, List.length_map]
    with_reducible refine pairs_wp (es := ev) hf (by omega) he he2 evl fun nw M6 hnl hnn hnp f6 x6 => ?_
    have he6 := x6.get (by simpa using he2) he
    obtain ⟨PS, hPS⟩ : ∃ PS, PS = ev.zip nw := ⟨_, rfl⟩
    have nx : ∀ x ∈ nw, Sx x := fun x hx => pool_ok x (hnp x hx)
    have ps2 : ∀ p ∈ PS, Sx p.1 ∧ Sx p.2 := fun p hp => by
      rw [hPS] at hp
      exact ⟨evx _ (List.of_mem_zip hp).1, nx _ (List.of_mem_zip hp).2⟩
    have psl : PS.length ≤ 10 := by rw [hPS, List.length_zip]; omega
    obtain ⟨CS, hCS⟩ : ∃ CS, CS = nw.zip ev := ⟨_, rfl⟩
    have cs2 : ∀ p ∈ CS, Sx p.2 := fun p hp => by
      rw [hCS] at hp
      exact evx _ (List.of_mem_zip hp).2
    have back : ∀ x ∈ ev, wordOf CS (wordOf PS x) = x := fun x hx => by
      rw [hCS, hPS]
      exact (word_back hnl.symm evn hnn hx).1
    have swap : PS.map (fun p => (p.2, p.1)) = CS := by
      rw [hPS, hCS]
      exact zip_swap ev nw
    rw [← hPS]
    clear hPS hCS
    with_reducible refine next_wp f6 (by omega) (by omega) (by omega) fun r7 M7 a7 b7 f7 x7 => ?_
    have l7 := f7.lf
    with_reducible refine next_wp (f7.push _) (by omega) (by omega) (by omega) fun r8 M8 a8 b8 f8 x8 => ?_
    have he8 := x8.get (by simpa using he2) (get_push (N := [.lst [.int 0, .int 1, .int 7000, .int r7]]) (x7.get (by simpa using he2) he6))
    refine pick_wp (x8.get (by simp; omega) get_new) a8 (by simpa using b8) fun d8 hd8 => ?_
    obtain ⟨more, rfl, m0, m1⟩ : ∃ m : Int, d8 = .int m ∧ 0 ≤ m ∧ m ≤ 7000 := by
      simp only [List.mem_cons, List.not_mem_nil, or_false] at hd8
      rcases hd8 with rfl | rfl | rfl | rfl
      · exact ⟨0, rfl, by omega, by omega⟩
      · exact ⟨1, rfl, by omega, by omega⟩
      · exact ⟨7000, rfl, by omega, by omega⟩
      · exact ⟨r7, rfl, a7, by omega⟩
    have wpair : Wt (.tuple [bookP pgs, pairsP PS]) 300000 5 := (wt_tup (all2 (book_wt pl30 hsm) (pairs_wt psl ps2))).mono (by simp) (by decide)
    have T1 := hrsm PS more (fun p hp => (ps2 p hp).2) m0 m1
    have T0 := hrsm PS 0 (fun p hp => (ps2 p hp).2) (by omega) (by omega)
    have N1 := hrsm [] more nil_sx m0 m1
    try simp only [wp_seq, wp_pass, wp_never, wp_expr, wp_ret, wp_retN, wp_ifS, wp_set, wp_asg, wp_par, wp_par3, wp_var, wp_K, wp_anil, wp_acons, wp_bin, wp_tup, wp_tupK, wp_lst, wp_call, wp_cb, wp_ifE, wp_tOf, wp_tAnd, wp_tOr, wp_tNot, wp_tYes, wp_and, wp_sl, wp_oN, wp_oS, wp_mt, wp_kget, wp_gname, wp_gtup, wp_gnil, wp_gcons, wp_gsub, wpR_ok, wpR_bad, wpR_bind, wpR_no, wpS_ok_nx, wpS_ok_rt, wpS_bad, wp_add, wp_sub, wp_mul, wp_mod, wp_fdiv, wp_pow, wp_lt, wp_le, wp_gt, wp_ge, wp_eqI, wp_neI, wp_eqS, wp_neS, Tr.ix_tup, len_tup, call1, call2, call3, call4, wipeD, startD, tupD, List.map_cons, List.map_nil, List.length_cons, List.length_nil, List.replicate, List.cons_append, List.nil_append, List.getElem?_cons_zero, List.getElem?_cons_succ, List.set_cons_zero, List.set_cons_succ, atI_0, atI_1, atI_2, atI_3, atI_4, atI_5, if_true, Bool.false_eq_true, if_false, lim_0, lim_1, lim_2, lim_3, lim_4, lim_5, true_and, Nat.sub_zero]
    rw [repr_t (npd _ _) wpair (by decide) (by decide)]
    try simp only [wp_seq, wp_pass, wp_never, wp_expr, wp_ret, wp_retN, wp_ifS, wp_set, wp_asg, wp_par, wp_par3, wp_var, wp_K, wp_anil, wp_acons, wp_bin, wp_tup, wp_tupK, wp_lst, wp_call, wp_cb, wp_ifE, wp_tOf, wp_tAnd, wp_tOr, wp_tNot, wp_tYes, wp_and, wp_sl, wp_oN, wp_oS, wp_mt, wp_kget, wp_gname, wp_gtup, wp_gnil, wp_gcons, wp_gsub, wpR_ok, wpR_bad, wpR_bind, wpR_no, wpS_ok_nx, wpS_ok_rt, wpS_bad, wp_add, wp_sub, wp_mul, wp_mod, wp_fdiv, wp_pow, wp_lt, wp_le, wp_gt, wp_ge, wp_eqI, wp_neI, wp_eqS, wp_neS, Tr.ix_tup, len_tup, call1, call2, call3, call4, wipeD, startD, tupD, List.map_cons, List.map_nil, List.length_cons, List.length_nil, List.replicate, List.cons_append, List.nil_append, List.getElem?_cons_zero, List.getElem?_cons_succ, List.set_cons_zero, List.set_cons_succ, atI_0, atI_1, atI_2, atI_3, atI_4, atI_5, if_true, Bool.false_eq_true, if_false, lim_0, lim_1, lim_2, lim_3, lim_4, lim_5, true_and, Nat.sub_zero, ca_p]
    with_reducible refine renamed_wp (E := ev) (ps := PS) hgood pl30 f8 fun M9 f9 x9 => ?_
    try simp only [wp_seq, wp_pass, wp_never, wp_expr, wp_ret, wp_retN, wp_ifS, wp_set, wp_asg, wp_par, wp_par3, wp_var, wp_K, wp_anil, wp_acons, wp_bin, wp_tup, wp_tupK, wp_lst, wp_call, wp_cb, wp_ifE, wp_tOf, wp_tAnd, wp_tOr, wp_tNot, wp_tYes, wp_and, wp_sl, wp_oN, wp_oS, wp_mt, wp_kget, wp_gname, wp_gtup, wp_gnil, wp_gcons, wp_gsub, wpR_ok, wpR_bad, wpR_bind, wpR_no, wpS_ok_nx, wpS_ok_rt, wpS_bad, wp_add, wp_sub, wp_mul, wp_mod, wp_fdiv, wp_pow, wp_lt, wp_le, wp_gt, wp_ge, wp_eqI, wp_neI, wp_eqS, wp_neS, Tr.ix_tup, len_tup, call1, call2, call3, call4, wipeD, startD, tupD, List.map_cons, List.map_nil, List.length_cons, List.length_nil, List.replicate, List.cons_append, List.nil_append, List.getElem?_cons_zero, List.getElem?_cons_succ, List.set_cons_zero, List.set_cons_succ, atI_0, atI_1, atI_2, atI_3, atI_4, atI_5, if_true, Bool.false_eq_true, if_false, lim_0, lim_1, lim_2, lim_3, lim_4, lim_5, true_and, Nat.sub_zero, isi_book, Bool.not_true]
    rw [repr_book (hrl _ _) T1]
    with_reducible refine bookby_wp (E := ev) (ps := PS) hgood pl30 f9 fun M10 f10 x10 => ?_
    rw [repr_book (hrl _ _) T1]
    try simp only [wp_seq, wp_pass, wp_never, wp_expr, wp_ret, wp_retN, wp_ifS, wp_set, wp_asg, wp_par, wp_par3, wp_var, wp_K, wp_anil, wp_acons, wp_bin, wp_tup, wp_tupK, wp_lst, wp_call, wp_cb, wp_ifE, wp_tOf, wp_tAnd, wp_tOr, wp_tNot, wp_tYes, wp_and, wp_sl, wp_oN, wp_oS, wp_mt, wp_kget, wp_gname, wp_gtup, wp_gnil, wp_gcons, wp_gsub, wpR_ok, wpR_bad, wpR_bind, wpR_no, wpS_ok_nx, wpS_ok_rt, wpS_bad, wp_add, wp_sub, wp_mul, wp_mod, wp_fdiv, wp_pow, wp_lt, wp_le, wp_gt, wp_ge, wp_eqI, wp_neI, wp_eqS, wp_neS, Tr.ix_tup, len_tup, call1, call2, call3, call4, wipeD, startD, tupD, List.map_cons, List.map_nil, List.length_cons, List.length_nil, List.replicate, List.cons_append, List.nil_append, List.getElem?_cons_zero, List.getElem?_cons_succ, List.set_cons_zero, List.set_cons_succ, atI_0, atI_1, atI_2, atI_3, atI_4, atI_5, if_true, Bool.false_eq_true, if_false, lim_0, lim_1, lim_2, lim_3, lim_4, lim_5, true_and, Nat.sub_zero, eq_self, decide_true, Bool.not_true, ca_k3]
    with_reducible refine renamed_wp (E := ev) (ps := PS) hgood pl30 f10 fun M11 f11 x11 => ?_
    rw [repr_book (hrl _ _) T1]
    try simp only [wp_seq, wp_pass, wp_never, wp_expr, wp_ret, wp_retN, wp_ifS, wp_set, wp_asg, wp_par, wp_par3, wp_var, wp_K, wp_anil, wp_acons, wp_bin, wp_tup, wp_tupK, wp_lst, wp_call, wp_cb, wp_ifE, wp_tOf, wp_tAnd, wp_tOr, wp_tNot, wp_tYes, wp_and, wp_sl, wp_oN, wp_oS, wp_mt, wp_kget, wp_gname, wp_gtup, wp_gnil, wp_gcons, wp_gsub, wpR_ok, wpR_bad, wpR_bind, wpR_no, wpS_ok_nx, wpS_ok_rt, wpS_bad, wp_add, wp_sub, wp_mul, wp_mod, wp_fdiv, wp_pow, wp_lt, wp_le, wp_gt, wp_ge, wp_eqI, wp_neI, wp_eqS, wp_neS, Tr.ix_tup, len_tup, call1, call2, call3, call4, wipeD, startD, tupD, List.map_cons, List.map_nil, List.length_cons, List.length_nil, List.replicate, List.cons_append, List.nil_append, List.getElem?_cons_zero, List.getElem?_cons_succ, List.set_cons_zero, List.set_cons_succ, atI_0, atI_1, atI_2, atI_3, atI_4, atI_5, if_true, Bool.false_eq_true, if_false, lim_0, lim_1, lim_2, lim_3, lim_4, lim_5, true_and, Nat.sub_zero]
    rw [repr_book (hrl _ _) T1]
    try simp only [wp_seq, wp_pass, wp_never, wp_expr, wp_ret, wp_retN, wp_ifS, wp_set, wp_asg, wp_par, wp_par3, wp_var, wp_K, wp_anil, wp_acons, wp_bin, wp_tup, wp_tupK, wp_lst, wp_call, wp_cb, wp_ifE, wp_tOf, wp_tAnd, wp_tOr, wp_tNot, wp_tYes, wp_and, wp_sl, wp_oN, wp_oS, wp_mt, wp_kget, wp_gname, wp_gtup, wp_gnil, wp_gcons, wp_gsub, wpR_ok, wpR_bad, wpR_bind, wpR_no, wpS_ok_nx, wpS_ok_rt, wpS_bad, wp_add, wp_sub, wp_mul, wp_mod, wp_fdiv, wp_pow, wp_lt, wp_le, wp_gt, wp_ge, wp_eqI, wp_neI, wp_eqS, wp_neS, Tr.ix_tup, len_tup, call1, call2, call3, call4, wipeD, startD, tupD, List.map_cons, List.map_nil, List.length_cons, List.length_nil, List.replicate, List.cons_append, List.nil_append, List.getElem?_cons_zero, List.getElem?_cons_succ, List.set_cons_zero, List.set_cons_succ, atI_0, atI_1, atI_2, atI_3, atI_4, atI_5, if_true, Bool.false_eq_true, if_false, lim_0, lim_1, lim_2, lim_3, lim_4, lim_5, true_and, Nat.sub_zero, eq_self, decide_true, Bool.not_true, ca_2]
    with_reducible refine renamed_wp (E := ev) (ps := PS) hgood pl30 f11 fun M12 f12 x12 => ?_
    rw [repr_book (hrl _ _) T0]
    with_reducible refine bookby_wp (E := ev) (ps := PS) hgood pl30 f12 fun M13 f13 x13 => ?_
    rw [repr_book (hrl _ _) T0]
    try simp only [wp_seq, wp_pass, wp_never, wp_expr, wp_ret, wp_retN, wp_ifS, wp_set, wp_asg, wp_par, wp_par3, wp_var, wp_K, wp_anil, wp_acons, wp_bin, wp_tup, wp_tupK, wp_lst, wp_call, wp_cb, wp_ifE, wp_tOf, wp_tAnd, wp_tOr, wp_tNot, wp_tYes, wp_and, wp_sl, wp_oN, wp_oS, wp_mt, wp_kget, wp_gname, wp_gtup, wp_gnil, wp_gcons, wp_gsub, wpR_ok, wpR_bad, wpR_bind, wpR_no, wpS_ok_nx, wpS_ok_rt, wpS_bad, wp_add, wp_sub, wp_mul, wp_mod, wp_fdiv, wp_pow, wp_lt, wp_le, wp_gt, wp_ge, wp_eqI, wp_neI, wp_eqS, wp_neS, Tr.ix_tup, len_tup, call1, call2, call3, call4, wipeD, startD, tupD, List.map_cons, List.map_nil, List.length_cons, List.length_nil, List.replicate, List.cons_append, List.nil_append, List.getElem?_cons_zero, List.getElem?_cons_succ, List.set_cons_zero, List.set_cons_succ, atI_0, atI_1, atI_2, atI_3, atI_4, atI_5, if_true, Bool.false_eq_true, if_false, lim_0, lim_1, lim_2, lim_3, lim_4, lim_5, true_and, Nat.sub_zero, eq_self, decide_true, Bool.not_true]
    rw [k0]
    with_reducible refine bookby_wp (E := ev) (ps := []) hgood pl30 f13 fun M14 f14 x14 => ?_
    rw [repr_book (hrl _ _) N1]
    try simp only [wp_seq, wp_pass, wp_never, wp_expr, wp_ret, wp_retN, wp_ifS, wp_set, wp_asg, wp_par, wp_par3, wp_var, wp_K, wp_anil, wp_acons, wp_bin, wp_tup, wp_tupK, wp_lst, wp_call, wp_cb, wp_ifE, wp_tOf, wp_tAnd, wp_tOr, wp_tNot, wp_tYes, wp_and, wp_sl, wp_oN, wp_oS, wp_mt, wp_kget, wp_gname, wp_gtup, wp_gnil, wp_gcons, wp_gsub, wpR_ok, wpR_bad, wpR_bind, wpR_no, wpS_ok_nx, wpS_ok_rt, wpS_bad, wp_add, wp_sub, wp_mul, wp_mod, wp_fdiv, wp_pow, wp_lt, wp_le, wp_gt, wp_ge, wp_eqI, wp_neI, wp_eqS, wp_neS, Tr.ix_tup, len_tup, call1, call2, call3, call4, wipeD, startD, tupD, List.map_cons, List.map_nil, List.length_cons, List.length_nil, List.replicate, List.cons_append, List.nil_append, List.getElem?_cons_zero, List.getElem?_cons_succ, List.set_cons_zero, List.set_cons_succ, atI_0, atI_1, atI_2, atI_3, atI_4, atI_5, if_true, Bool.false_eq_true, if_false, lim_0, lim_1, lim_2, lim_3, lim_4, lim_5, true_and, Nat.sub_zero, ca_1l]
    with_reducible refine renamedN_wp (E := ev) hgood pl30 f14 fun M15 f15 x15 => ?_
    rw [repr_book (hrl _ _) N1]
    try simp only [wp_seq, wp_pass, wp_never, wp_expr, wp_ret, wp_retN, wp_ifS, wp_set, wp_asg, wp_par, wp_par3, wp_var, wp_K, wp_anil, wp_acons, wp_bin, wp_tup, wp_tupK, wp_lst, wp_call, wp_cb, wp_ifE, wp_tOf, wp_tAnd, wp_tOr, wp_tNot, wp_tYes, wp_and, wp_sl, wp_oN, wp_oS, wp_mt, wp_kget, wp_gname, wp_gtup, wp_gnil, wp_gcons, wp_gsub, wpR_ok, wpR_bad, wpR_bind, wpR_no, wpS_ok_nx, wpS_ok_rt, wpS_bad, wp_add, wp_sub, wp_mul, wp_mod, wp_fdiv, wp_pow, wp_lt, wp_le, wp_gt, wp_ge, wp_eqI, wp_neI, wp_eqS, wp_neS, Tr.ix_tup, len_tup, call1, call2, call3, call4, wipeD, startD, tupD, List.map_cons, List.map_nil, List.length_cons, List.length_nil, List.replicate, List.cons_append, List.nil_append, List.getElem?_cons_zero, List.getElem?_cons_succ, List.set_cons_zero, List.set_cons_succ, atI_0, atI_1, atI_2, atI_3, atI_4, atI_5, if_true, Bool.false_eq_true, if_false, lim_0, lim_1, lim_2, lim_3, lim_4, lim_5, true_and, Nat.sub_zero, ca_p]
    with_reducible refine renamedN_wp (E := ev) hgood pl30 f15 fun M16 f16 x16 => ?_
    rw [repr_book (hrl _ _) N1]
    try simp only [wp_seq, wp_pass, wp_never, wp_expr, wp_ret, wp_retN, wp_ifS, wp_set, wp_asg, wp_par, wp_par3, wp_var, wp_K, wp_anil, wp_acons, wp_bin, wp_tup, wp_tupK, wp_lst, wp_call, wp_cb, wp_ifE, wp_tOf, wp_tAnd, wp_tOr, wp_tNot, wp_tYes, wp_and, wp_sl, wp_oN, wp_oS, wp_mt, wp_kget, wp_gname, wp_gtup, wp_gnil, wp_gcons, wp_gsub, wpR_ok, wpR_bad, wpR_bind, wpR_no, wpS_ok_nx, wpS_ok_rt, wpS_bad, wp_add, wp_sub, wp_mul, wp_mod, wp_fdiv, wp_pow, wp_lt, wp_le, wp_gt, wp_ge, wp_eqI, wp_neI, wp_eqS, wp_neS, Tr.ix_tup, len_tup, call1, call2, call3, call4, wipeD, startD, tupD, List.map_cons, List.map_nil, List.length_cons, List.length_nil, List.replicate, List.cons_append, List.nil_append, List.getElem?_cons_zero, List.getElem?_cons_succ, List.set_cons_zero, List.set_cons_succ, atI_0, atI_1, atI_2, atI_3, atI_4, atI_5, if_true, Bool.false_eq_true, if_false, lim_0, lim_1, lim_2, lim_3, lim_4, lim_5, true_and, Nat.sub_zero]
    have f17 := f16.push [.lst [.str (bookP (pgs.map (Pg.ren (wordOf []) more))).shown, .str (bookP (pgs.map (Pg.ren (wordOf []) more))).shown]]
    have g1 := get_new (M := M16) (m := .lst [.str (bookP (pgs.map (Pg.ren (wordOf []) more))).shown, .str (bookP (pgs.map (Pg.ren (wordOf []) more))).shown])
    rw [ne_strs (get_push g1) get_new (uni_ok (book_wt (hrl _ _) N1).un)]
    try simp only [wp_seq, wp_pass, wp_never, wp_expr, wp_ret, wp_retN, wp_ifS, wp_set, wp_asg, wp_par, wp_par3, wp_var, wp_K, wp_anil, wp_acons, wp_bin, wp_tup, wp_tupK, wp_lst, wp_call, wp_cb, wp_ifE, wp_tOf, wp_tAnd, wp_tOr, wp_tNot, wp_tYes, wp_and, wp_sl, wp_oN, wp_oS, wp_mt, wp_kget, wp_gname, wp_gtup, wp_gnil, wp_gcons, wp_gsub, wpR_ok, wpR_bad, wpR_bind, wpR_no, wpS_ok_nx, wpS_ok_rt, wpS_bad, wp_add, wp_sub, wp_mul, wp_mod, wp_fdiv, wp_pow, wp_lt, wp_le, wp_gt, wp_ge, wp_eqI, wp_neI, wp_eqS, wp_neS, Tr.ix_tup, len_tup, call1, call2, call3, call4, wipeD, startD, tupD, List.map_cons, List.map_nil, List.length_cons, List.length_nil, List.replicate, List.cons_append, List.nil_append, List.getElem?_cons_zero, List.getElem?_cons_succ, List.set_cons_zero, List.set_cons_succ, atI_0, atI_1, atI_2, atI_3, atI_4, atI_5, if_true, Bool.false_eq_true, if_false, lim_0, lim_1, lim_2, lim_3, lim_4, lim_5, true_and, Nat.sub_zero]
    have f18 := f17.push [.lst [.str (bookP (pgs.map (Pg.ren (wordOf []) more))).shown, .str (bookP (pgs.map (Pg.ren (wordOf []) more))).shown]]
    have x18 : Ext [2] M8 (M16 ++ [.lst [.str (bookP (pgs.map (Pg.ren (wordOf []) more))).shown, .str (bookP (pgs.map (Pg.ren (wordOf []) more))).shown]] ++ [.lst [.str (bookP (pgs.map (Pg.ren (wordOf []) more))).shown, .str (bookP (pgs.map (Pg.ren (wordOf []) more))).shown]]) :=
      ((((((((((x9.trans x10).trans x11).trans x12).trans x13).trans x14).trans x15).trans x16).trans (Ext.push _ _)).trans (Ext.push _ _)))
    have he18 := x18.get (by simpa using he2) he8
    generalize M16 ++ [.lst [.str (bookP (pgs.map (Pg.ren (wordOf []) more))).shown, .str (bookP (pgs.map (Pg.ren (wordOf []) more))).shown]] ++ [.lst [.str (bookP (pgs.map (Pg.ren (wordOf []) more))).shown, .str (bookP (pgs.map (Pg.ren (wordOf []) more))).shown]] = M18 at f18 he18 ⊢
    clear x18 x9 x10 x11 x12 x13 x14 x15 x16 f9 f10 f11 f12 f13 f14 f15 f16 f17 g1 f8 he8
    with_reducible refine lcV_wp (d := .ktup (PS.map prD)) (zs := PS.map prD) 0 (fun i acc => acc = ((PS.take i).map (fun p => (p.2, p.1))).map prD) (fun R hR => by simp only [wp_seq, wp_pass, wp_never, wp_expr, wp_ret, wp_retN, wp_ifS, wp_set, wp_asg, wp_par, wp_par3, wp_var, wp_K, wp_anil, wp_acons, wp_bin, wp_tup, wp_tupK, wp_lst, wp_call, wp_cb, wp_ifE, wp_tOf, wp_tAnd, wp_tOr, wp_tNot, wp_tYes, wp_and, wp_sl, wp_oN, wp_oS, wp_mt, wp_kget, wp_gname, wp_gtup, wp_gnil, wp_gcons, wp_gsub, wpR_ok, wpR_bad, wpR_bind, wpR_no, wpS_ok_nx, wpS_ok_rt, wpS_bad, wp_add, wp_sub, wp_mul, wp_mod, wp_fdiv, wp_pow, wp_lt, wp_le, wp_gt, wp_ge, wp_eqI, wp_neI, wp_eqS, wp_neS, Tr.ix_tup, len_tup, call1, call2, call3, call4, wipeD, startD, tupD, List.map_cons, List.map_nil, List.length_cons, List.length_nil, List.replicate, List.cons_append, List.nil_append, List.getElem?_cons_zero, List.getElem?_cons_succ, List.set_cons_zero, List.set_cons_succ, atI_0, atI_1, atI_2, atI_3, atI_4, atI_5, if_true, Bool.false_eq_true, if_false, lim_0, lim_1, lim_2, lim_3, lim_4, lim_5, true_and, Nat.sub_zero]; exact hR) (fun _ _ => (by simp only [seqD])) f18 (by simp) (by rw [List.length_map]; omega) ?_ ?_
    · intro j acc M2 hj hJ hf2 hx2
      have hj' : j < PS.length := by simpa using hj
      have ej : (PS.map prD).getD j .non = prD PS[j] := by simp [List.getD, hj']
      rw [ej]
      simp only [prD, wp_seq, wp_pass, wp_never, wp_expr, wp_ret, wp_retN, wp_ifS, wp_set, wp_asg, wp_par, wp_par3, wp_var, wp_K, wp_anil, wp_acons, wp_bin, wp_tup, wp_tupK, wp_lst, wp_call, wp_cb, wp_ifE, wp_tOf, wp_tAnd, wp_tOr, wp_tNot, wp_tYes, wp_and, wp_sl, wp_oN, wp_oS, wp_mt, wp_kget, wp_gname, wp_gtup, wp_gnil, wp_gcons, wp_gsub, wpR_ok, wpR_bad, wpR_bind, wpR_no, wpS_ok_nx, wpS_ok_rt, wpS_bad, wp_add, wp_sub, wp_mul, wp_mod, wp_fdiv, wp_pow, wp_lt, wp_le, wp_gt, wp_ge, wp_eqI, wp_neI, wp_eqS, wp_neS, Tr.ix_tup, len_tup, call1, call2, call3, call4, wipeD, startD, tupD, List.map_cons, List.map_nil, List.length_cons, List.length_nil, List.replicate, List.cons_append, List.nil_append, List.getElem?_cons_zero, List.getElem?_cons_succ, List.set_cons_zero, List.set_cons_succ, atI_0, atI_1, atI_2, atI_3, atI_4, atI_5, if_true, Bool.false_eq_true, if_false, lim_0, lim_1, lim_2, lim_3, lim_4, lim_5, true_and, Nat.sub_zero]
      refine ⟨?_, hf2, Ext.refl _ _⟩
      rw [hJ, List.take_add_one, List.getElem?_eq_getElem hj', Option.toList_some, List.map_append, List.map_append]
      rfl
    · intro acc M19 hJ _ f19 x19 o19
      have hacc : acc = CS.map prD := by
        rw [hJ, List.take_of_length_le (by rw [List.length_map]; exact Nat.le_refl _), swap]
      rw [hacc] at o19
      have f19' : Feed 2 1 cs M19 (1200 + 100 * (i + 1)) := f19.mono (by omega)
      rw [tupK_obj o19]
      try simp only [wp_seq, wp_pass, wp_never, wp_expr, wp_ret, wp_retN, wp_ifS, wp_set, wp_asg, wp_par, wp_par3, wp_var, wp_K, wp_anil, wp_acons, wp_bin, wp_tup, wp_tupK, wp_lst, wp_call, wp_cb, wp_ifE, wp_tOf, wp_tAnd, wp_tOr, wp_tNot, wp_tYes, wp_and, wp_sl, wp_oN, wp_oS, wp_mt, wp_kget, wp_gname, wp_gtup, wp_gnil, wp_gcons, wp_gsub, wpR_ok, wpR_bad, wpR_bind, wpR_no, wpS_ok_nx, wpS_ok_rt, wpS_bad, wp_add, wp_sub, wp_mul, wp_mod, wp_fdiv, wp_pow, wp_lt, wp_le, wp_gt, wp_ge, wp_eqI, wp_neI, wp_eqS, wp_neS, Tr.ix_tup, len_tup, call1, call2, call3, call4, wipeD, startD, tupD, List.map_cons, List.map_nil, List.length_cons, List.length_nil, List.replicate, List.cons_append, List.nil_append, List.getElem?_cons_zero, List.getElem?_cons_succ, List.set_cons_zero, List.set_cons_succ, atI_0, atI_1, atI_2, atI_3, atI_4, atI_5, if_true, Bool.false_eq_true, if_false, lim_0, lim_1, lim_2, lim_3, lim_4, lim_5, true_and, Nat.sub_zero, ca_1w]
      with_reducible refine renamed_wp (E := ev) (ps := PS) hgood pl30 f19' fun M20 f20 x20 => ?_
      try simp only [wp_seq, wp_pass, wp_never, wp_expr, wp_ret, wp_retN, wp_ifS, wp_set, wp_asg, wp_par, wp_par3, wp_var, wp_K, wp_anil, wp_acons, wp_bin, wp_tup, wp_tupK, wp_lst, wp_call, wp_cb, wp_ifE, wp_tOf, wp_tAnd, wp_tOr, wp_tNot, wp_tYes, wp_and, wp_sl, wp_oN, wp_oS, wp_mt, wp_kget, wp_gname, wp_gtup, wp_gnil, wp_gcons, wp_gsub, wpR_ok, wpR_bad, wpR_bind, wpR_no, wpS_ok_nx, wpS_ok_rt, wpS_bad, wp_add, wp_sub, wp_mul, wp_mod, wp_fdiv, wp_pow, wp_lt, wp_le, wp_gt, wp_ge, wp_eqI, wp_neI, wp_eqS, wp_neS, Tr.ix_tup, len_tup, call1, call2, call3, call4, wipeD, startD, tupD, List.map_cons, List.map_nil, List.length_cons, List.length_nil, List.replicate, List.cons_append, List.nil_append, List.getElem?_cons_zero, List.getElem?_cons_succ, List.set_cons_zero, List.set_cons_succ, atI_0, atI_1, atI_2, atI_3, atI_4, atI_5, if_true, Bool.false_eq_true, if_false, lim_0, lim_1, lim_2, lim_3, lim_4, lim_5, true_and, Nat.sub_zero, ca_1w]
      have hg2 : ∀ p ∈ pgs.map (Pg.ren (wordOf PS) 0), p.d.Good (ev.map (wordOf PS)) := fun p hp => by
        obtain ⟨g, hg, rfl⟩ := List.mem_map.mp hp
        exact ren_good (hgood g hg)
      with_reducible refine renamed_wp (E := ev.map (wordOf PS)) (ps := CS) hg2 (hrl _ _) f20 fun M21 f21 x21 => ?_
      have same : (pgs.map (Pg.ren (wordOf PS) 0)).map (Pg.ren (wordOf CS) 0) = pgs := by
        rw [List.map_map]
        refine (List.map_congr_left fun p hp => ?_).trans (List.map_id pgs)
        show (⟨p.m + 0 + 0, p.k, (p.d.ren (wordOf PS)).ren (wordOf CS)⟩ : Pg) = p
        rw [ren_back back (hgood p hp), Int.add_zero, Int.add_zero]
      rw [same, repr_book pl30 hsm]
      try simp only [wp_seq, wp_pass, wp_never, wp_expr, wp_ret, wp_retN, wp_ifS, wp_set, wp_asg, wp_par, wp_par3, wp_var, wp_K, wp_anil, wp_acons, wp_bin, wp_tup, wp_tupK, wp_lst, wp_call, wp_cb, wp_ifE, wp_tOf, wp_tAnd, wp_tOr, wp_tNot, wp_tYes, wp_and, wp_sl, wp_oN, wp_oS, wp_mt, wp_kget, wp_gname, wp_gtup, wp_gnil, wp_gcons, wp_gsub, wpR_ok, wpR_bad, wpR_bind, wpR_no, wpS_ok_nx, wpS_ok_rt, wpS_bad, wp_add, wp_sub, wp_mul, wp_mod, wp_fdiv, wp_pow, wp_lt, wp_le, wp_gt, wp_ge, wp_eqI, wp_neI, wp_eqS, wp_neS, Tr.ix_tup, len_tup, call1, call2, call3, call4, wipeD, startD, tupD, List.map_cons, List.map_nil, List.length_cons, List.length_nil, List.replicate, List.cons_append, List.nil_append, List.getElem?_cons_zero, List.getElem?_cons_succ, List.set_cons_zero, List.set_cons_succ, atI_0, atI_1, atI_2, atI_3, atI_4, atI_5, if_true, Bool.false_eq_true, if_false, lim_0, lim_1, lim_2, lim_3, lim_4, lim_5, true_and, Nat.sub_zero]
      rw [repr_book pl30 hsm]
      try simp only [wp_seq, wp_pass, wp_never, wp_expr, wp_ret, wp_retN, wp_ifS, wp_set, wp_asg, wp_par, wp_par3, wp_var, wp_K, wp_anil, wp_acons, wp_bin, wp_tup, wp_tupK, wp_lst, wp_call, wp_cb, wp_ifE, wp_tOf, wp_tAnd, wp_tOr, wp_tNot, wp_tYes, wp_and, wp_sl, wp_oN, wp_oS, wp_mt, wp_kget, wp_gname, wp_gtup, wp_gnil, wp_gcons, wp_gsub, wpR_ok, wpR_bad, wpR_bind, wpR_no, wpS_ok_nx, wpS_ok_rt, wpS_bad, wp_add, wp_sub, wp_mul, wp_mod, wp_fdiv, wp_pow, wp_lt, wp_le, wp_gt, wp_ge, wp_eqI, wp_neI, wp_eqS, wp_neS, Tr.ix_tup, len_tup, call1, call2, call3, call4, wipeD, startD, tupD, List.map_cons, List.map_nil, List.length_cons, List.length_nil, List.replicate, List.cons_append, List.nil_append, List.getElem?_cons_zero, List.getElem?_cons_succ, List.set_cons_zero, List.set_cons_succ, atI_0, atI_1, atI_2, atI_3, atI_4, atI_5, if_true, Bool.false_eq_true, if_false, lim_0, lim_1, lim_2, lim_3, lim_4, lim_5, true_and, Nat.sub_zero, eq_self, decide_true, Bool.not_true]
      rw [repr_t (npd _ _) wpair (by decide) (by decide)]
      try simp only [wp_seq, wp_pass, wp_never, wp_expr, wp_ret, wp_retN, wp_ifS, wp_set, wp_asg, wp_par, wp_par3, wp_var, wp_K, wp_anil, wp_acons, wp_bin, wp_tup, wp_tupK, wp_lst, wp_call, wp_cb, wp_ifE, wp_tOf, wp_tAnd, wp_tOr, wp_tNot, wp_tYes, wp_and, wp_sl, wp_oN, wp_oS, wp_mt, wp_kget, wp_gname, wp_gtup, wp_gnil, wp_gcons, wp_gsub, wpR_ok, wpR_bad, wpR_bind, wpR_no, wpS_ok_nx, wpS_ok_rt, wpS_bad, wp_add, wp_sub, wp_mul, wp_mod, wp_fdiv, wp_pow, wp_lt, wp_le, wp_gt, wp_ge, wp_eqI, wp_neI, wp_eqS, wp_neS, Tr.ix_tup, len_tup, call1, call2, call3, call4, wipeD, startD, tupD, List.map_cons, List.map_nil, List.length_cons, List.length_nil, List.replicate, List.cons_append, List.nil_append, List.getElem?_cons_zero, List.getElem?_cons_succ, List.set_cons_zero, List.set_cons_succ, atI_0, atI_1, atI_2, atI_3, atI_4, atI_5, if_true, Bool.false_eq_true, if_false, lim_0, lim_1, lim_2, lim_3, lim_4, lim_5, true_and, Nat.sub_zero, eq_self, decide_true, Bool.not_true]
      exact (hI _ _ _).mpr ⟨_, _, _, _, _, _, _, _, _, _, rfl, ((x19.trans x20).trans x21).get (by simpa using he2) he18, f21⟩
  · intro env M' hh
    obtain ⟨w6, w7, w8, w9, w10, w11, w12, w13, w14, w15, rfl, he, hf⟩ := (hI _ _ _).mp hh
    refine ⟨itR_end, ?_⟩
    have hN : (itR 0 (2 : Int).toNat).n = 2 := rfl
    rw [hN] at hf
    try simp only [wp_seq, wp_pass, wp_never, wp_expr, wp_ret, wp_retN, wp_ifS, wp_set, wp_asg, wp_par, wp_par3, wp_var, wp_K, wp_anil, wp_acons, wp_bin, wp_tup, wp_tupK, wp_lst, wp_call, wp_cb, wp_ifE, wp_tOf, wp_tAnd, wp_tOr, wp_tNot, wp_tYes, wp_and, wp_sl, wp_oN, wp_oS, wp_mt, wp_kget, wp_gname, wp_gtup, wp_gnil, wp_gcons, wp_gsub, wpR_ok, wpR_bad, wpR_bind, wpR_no, wpS_ok_nx, wpS_ok_rt, wpS_bad, wp_add, wp_sub, wp_mul, wp_mod, wp_fdiv, wp_pow, wp_lt, wp_le, wp_gt, wp_ge, wp_eqI, wp_neI, wp_eqS, wp_neS, Tr.ix_tup, len_tup, call1, call2, call3, call4, wipeD, startD, tupD, List.map_cons, List.map_nil, List.length_cons, List.length_nil, List.replicate, List.cons_append, List.nil_append, List.getElem?_cons_zero, List.getElem?_cons_succ, List.set_cons_zero, List.set_cons_succ, atI_0, atI_1, atI_2, atI_3, atI_4, atI_5, if_true, Bool.false_eq_true, if_false, lim_0, lim_1, lim_2, lim_3, lim_4, lim_5, true_and, Nat.sub_zero, neg_one]
    refine any_wp he (by rw [List.length_map]; omega) (by rw [List.length_map]; omega) fun d1 hd1 => ?_
    obtain ⟨x, hx, rfl⟩ := List.mem_map.mp hd1
    have al : D.ktup [D.tup [D.str x, D.str "zzz"]] = D.ktup ([(x, ("zzz" : Str))].map prD) := rfl
    obtain ⟨AL, hAL⟩ : ∃ AL : List (Str × Str), AL = [(x, ("zzz" : Str))] := ⟨_, rfl⟩
    rw [al, ← hAL]
    try simp only [wp_seq, wp_pass, wp_never, wp_expr, wp_ret, wp_retN, wp_ifS, wp_set, wp_asg, wp_par, wp_par3, wp_var, wp_K, wp_anil, wp_acons, wp_bin, wp_tup, wp_tupK, wp_lst, wp_call, wp_cb, wp_ifE, wp_tOf, wp_tAnd, wp_tOr, wp_tNot, wp_tYes, wp_and, wp_sl, wp_oN, wp_oS, wp_mt, wp_kget, wp_gname, wp_gtup, wp_gnil, wp_gcons, wp_gsub, wpR_ok, wpR_bad, wpR_bind, wpR_no, wpS_ok_nx, wpS_ok_rt, wpS_bad, wp_add, wp_sub, wp_mul, wp_mod, wp_fdiv, wp_pow, wp_lt, wp_le, wp_gt, wp_ge, wp_eqI, wp_neI, wp_eqS, wp_neS, Tr.ix_tup, len_tup, call1, call2, call3, call4, wipeD, startD, tupD, List.map_cons, List.map_nil, List.length_cons, List.length_nil, List.replicate, List.cons_append, List.nil_append, List.getElem?_cons_zero, List.getElem?_cons_succ, List.set_cons_zero, List.set_cons_succ, atI_0, atI_1, atI_2, atI_3, atI_4, atI_5, if_true, Bool.false_eq_true, if_false, lim_0, lim_1, lim_2, lim_3, lim_4, lim_5, true_and, Nat.sub_zero, ca_2]
    have alx : ∀ p ∈ AL, Sx p.2 := fun p hp => by
      rw [hAL] at hp
      rw [List.mem_singleton.mp hp]
      exact tags_ok _ (by simp)
    clear al
    have T0 := hrsm AL 0 alx (by omega) (by omega)
    with_reducible refine renamed_wp (E := ev) (ps := AL) hgood pl30 hf fun M9 f9 x9 => ?_
    rw [repr_book (hrl _ _) T0]
    with_reducible refine bookby_wp (E := ev) (ps := AL) hgood pl30 f9 fun M10 f10 x10 => ?_
    rw [repr_book (hrl _ _) T0]
    try simp only [wp_seq, wp_pass, wp_never, wp_expr, wp_ret, wp_retN, wp_ifS, wp_set, wp_asg, wp_par, wp_par3, wp_var, wp_K, wp_anil, wp_acons, wp_bin, wp_tup, wp_tupK, wp_lst, wp_call, wp_cb, wp_ifE, wp_tOf, wp_tAnd, wp_tOr, wp_tNot, wp_tYes, wp_and, wp_sl, wp_oN, wp_oS, wp_mt, wp_kget, wp_gname, wp_gtup, wp_gnil, wp_gcons, wp_gsub, wpR_ok, wpR_bad, wpR_bind, wpR_no, wpS_ok_nx, wpS_ok_rt, wpS_bad, wp_add, wp_sub, wp_mul, wp_mod, wp_fdiv, wp_pow, wp_lt, wp_le, wp_gt, wp_ge, wp_eqI, wp_neI, wp_eqS, wp_neS, Tr.ix_tup, len_tup, call1, call2, call3, call4, wipeD, startD, tupD, List.map_cons, List.map_nil, List.length_cons, List.length_nil, List.replicate, List.cons_append, List.nil_append, List.getElem?_cons_zero, List.getElem?_cons_succ, List.set_cons_zero, List.set_cons_succ, atI_0, atI_1, atI_2, atI_3, atI_4, atI_5, if_true, Bool.false_eq_true, if_false, lim_0, lim_1, lim_2, lim_3, lim_4, lim_5, true_and, Nat.sub_zero, eq_self, decide_true, Bool.not_true, ca_1]
    with_reducible refine renamedN_wp (E := ev) hgood pl30 f10 fun M11 f11 x11 => ?_
    try simp only [wp_seq, wp_pass, wp_never, wp_expr, wp_ret, wp_retN, wp_ifS, wp_set, wp_asg, wp_par, wp_par3, wp_var, wp_K, wp_anil, wp_acons, wp_bin, wp_tup, wp_tupK, wp_lst, wp_call, wp_cb, wp_ifE, wp_tOf, wp_tAnd, wp_tOr, wp_tNot, wp_tYes, wp_and, wp_sl, wp_oN, wp_oS, wp_mt, wp_kget, wp_gname, wp_gtup, wp_gnil, wp_gcons, wp_gsub, wpR_ok, wpR_bad, wpR_bind, wpR_no, wpS_ok_nx, wpS_ok_rt, wpS_bad, wp_add, wp_sub, wp_mul, wp_mod, wp_fdiv, wp_pow, wp_lt, wp_le, wp_gt, wp_ge, wp_eqI, wp_neI, wp_eqS, wp_neS, Tr.ix_tup, len_tup, call1, call2, call3, call4, wipeD, startD, tupD, List.map_cons, List.map_nil, List.length_cons, List.length_nil, List.replicate, List.cons_append, List.nil_append, List.getElem?_cons_zero, List.getElem?_cons_succ, List.set_cons_zero, List.set_cons_succ, atI_0, atI_1, atI_2, atI_3, atI_4, atI_5, if_true, Bool.false_eq_true, if_false, lim_0, lim_1, lim_2, lim_3, lim_4, lim_5, true_and, Nat.sub_zero, ca_2, pid]
    rw [show F_renamed [bookD pgs, D.ktup [], D.int 0] = F_renamed [bookD pgs, D.ktup (([] : List (Str × Str)).map prD), D.int 0] from rfl]
    with_reducible refine renamed_wp (E := ev) (ps := []) hgood pl30 f11 fun M12 f12 x12 => ?_
    try simp only [wp_seq, wp_pass, wp_never, wp_expr, wp_ret, wp_retN, wp_ifS, wp_set, wp_asg, wp_par, wp_par3, wp_var, wp_K, wp_anil, wp_acons, wp_bin, wp_tup, wp_tupK, wp_lst, wp_call, wp_cb, wp_ifE, wp_tOf, wp_tAnd, wp_tOr, wp_tNot, wp_tYes, wp_and, wp_sl, wp_oN, wp_oS, wp_mt, wp_kget, wp_gname, wp_gtup, wp_gnil, wp_gcons, wp_gsub, wpR_ok, wpR_bad, wpR_bind, wpR_no, wpS_ok_nx, wpS_ok_rt, wpS_bad, wp_add, wp_sub, wp_mul, wp_mod, wp_fdiv, wp_pow, wp_lt, wp_le, wp_gt, wp_ge, wp_eqI, wp_neI, wp_eqS, wp_neS, Tr.ix_tup, len_tup, call1, call2, call3, call4, wipeD, startD, tupD, List.map_cons, List.map_nil, List.length_cons, List.length_nil, List.replicate, List.cons_append, List.nil_append, List.getElem?_cons_zero, List.getElem?_cons_succ, List.set_cons_zero, List.set_cons_succ, atI_0, atI_1, atI_2, atI_3, atI_4, atI_5, if_true, Bool.false_eq_true, if_false, lim_0, lim_1, lim_2, lim_3, lim_4, lim_5, true_and, Nat.sub_zero, ca_1l, pid]
    with_reducible refine renamedK_wp f12 fun M13 f13 x13 => ?_
    try simp only [wp_seq, wp_pass, wp_never, wp_expr, wp_ret, wp_retN, wp_ifS, wp_set, wp_asg, wp_par, wp_par3, wp_var, wp_K, wp_anil, wp_acons, wp_bin, wp_tup, wp_tupK, wp_lst, wp_call, wp_cb, wp_ifE, wp_tOf, wp_tAnd, wp_tOr, wp_tNot, wp_tYes, wp_and, wp_sl, wp_oN, wp_oS, wp_mt, wp_kget, wp_gname, wp_gtup, wp_gnil, wp_gcons, wp_gsub, wpR_ok, wpR_bad, wpR_bind, wpR_no, wpS_ok_nx, wpS_ok_rt, wpS_bad, wp_add, wp_sub, wp_mul, wp_mod, wp_fdiv, wp_pow, wp_lt, wp_le, wp_gt, wp_ge, wp_eqI, wp_neI, wp_eqS, wp_neS, Tr.ix_tup, len_tup, call1, call2, call3, call4, wipeD, startD, tupD, List.map_cons, List.map_nil, List.length_cons, List.length_nil, List.replicate, List.cons_append, List.nil_append, List.getElem?_cons_zero, List.getElem?_cons_succ, List.set_cons_zero, List.set_cons_succ, atI_0, atI_1, atI_2, atI_3, atI_4, atI_5, if_true, Bool.false_eq_true, if_false, lim_0, lim_1, lim_2, lim_3, lim_4, lim_5, true_and, Nat.sub_zero]
    have lp : ∀ (M : Mem) (o : Nat) (z : D), M[o]? = some (.lst [bookD pgs, bookD pgs, z]) → pdW (pdO M 3) z = some (bookP []) → Tr.pd M (.obj o) = some (.list [bookP pgs, bookP pgs, bookP []]) := fun M o z h hz => by
      show (match M[o]? with
        | some (.lst xs) => (pdsW (pdO M 3) xs).map PyData.list
        | _ => none) = _
      rw [h]
      dsimp only
      have e : pdsW (pdO M 3) [bookD pgs, bookD pgs, z] = some [bookP pgs, bookP pgs, bookP []] := by
        simp only [pdsW, book_pd, hz]
      rw [e]
      rfl
    have wl : Wt (.list [bookP pgs, bookP pgs, bookP []]) 400000 5 := (wt_list (all3 (book_wt pl30 hsm) (book_wt pl30 hsm) (book_wt (pgs := []) (by simp) (by simp))) rfl).mono (by simp) (by decide)
    have ll : (3 : Nat) ≤ lim := by unfold lim; omega
    rw [repr_l (lp _ _ _ get_new (book_pd _ [])) wl (by decide) (by decide)]
    try simp only [wp_seq, wp_pass, wp_never, wp_expr, wp_ret, wp_retN, wp_ifS, wp_set, wp_asg, wp_par, wp_par3, wp_var, wp_K, wp_anil, wp_acons, wp_bin, wp_tup, wp_tupK, wp_lst, wp_call, wp_cb, wp_ifE, wp_tOf, wp_tAnd, wp_tOr, wp_tNot, wp_tYes, wp_and, wp_sl, wp_oN, wp_oS, wp_mt, wp_kget, wp_gname, wp_gtup, wp_gnil, wp_gcons, wp_gsub, wpR_ok, wpR_bad, wpR_bind, wpR_no, wpS_ok_nx, wpS_ok_rt, wpS_bad, wp_add, wp_sub, wp_mul, wp_mod, wp_fdiv, wp_pow, wp_lt, wp_le, wp_gt, wp_ge, wp_eqI, wp_neI, wp_eqS, wp_neS, Tr.ix_tup, len_tup, call1, call2, call3, call4, wipeD, startD, tupD, List.map_cons, List.map_nil, List.length_cons, List.length_nil, List.replicate, List.cons_append, List.nil_append, List.getElem?_cons_zero, List.getElem?_cons_succ, List.set_cons_zero, List.set_cons_succ, atI_0, atI_1, atI_2, atI_3, atI_4, atI_5, if_true, Bool.false_eq_true, if_false, lim_0, lim_1, lim_2, lim_3, lim_4, lim_5, true_and, Nat.sub_zero]
    rw [repr_l (lp _ _ _ get_new rfl) wl (by decide) (by decide)]
    simp only [wp_eqS, eq_self, decide_true]
end Lw

set_option Elab.async false
set_option linter.all false
set_option maxRecDepth 100000
set_option maxHeartbeats 0
namespace Lw
open PySem PySem.Spec PyProof.Rows L2 Tr
abbrev TheRow : PySem.W.OpenRow := PySem.W.OpenLaw.row PySem.Challenge.rw_tablebills_k79_names_turned
def seen (s : PySem.W.SharedT) : AlM := hs.look (HandSHeadRun.getT s)
def loose : List Str := (["WORDS_AT", "ROWS_AT", "thing_renamed", "renamed", "_law_feed", "_law_next", "_law_words", "_law_prices", "_law_house", "_law_guests", "_law_dish_deed", "_law_deed", "_law_pages", "_law_pairs", "_law_deed_by", "_law_book_by"] : List Str)
theorem run (w : World) : HandSHeadRun.RunEq TheRow (PySem.W.view TheRow.prog [18]) hs.hook seen 20000 loose w := by
  refine PySem.W.byRow2 "special-get-raises" (P := fun w => HandSHeadRun.RunEq TheRow (PySem.W.view TheRow.prog [18]) hs.hook seen 20000 loose w) (fun w => ?_) (fun w => ?_) w
  · intro os
    kernel_rfl
  · intro os
    kernel_rfl
theorem law_ok {P : Program} {w : World} {K : PySem.W.Frag} {mg : Str → Option Value} {f : Addr} {h : Heap} (kin : K.In h) (G : h.Ns mainGlobals mg) (hf : mg ("law" : Str) = some (.ref f)) (c : hs.Says w K) :
    ∃ fd : FuncData, (∀ (s : Shared) (u : Value), BindsTo s fd ⟨[u], []⟩ [("_law_script", u)]) ∧ ∀ base : Heap, K.In base → base.Ns mainGlobals mg → FnG P w K [] mg base 5 f fd ["_law_script"] F_law := by
  obtain ⟨fd, FD⟩ := c.d.def_ (fn.length - 1) (d := d_law) rfl
  obtain ⟨_, _, o1⟩ := ok_law (P := P) c kin G
  have e := hf.symm.trans o1.gl
  cases e
  have b := FunD.bindsA (ps := ["_law_script"]) FD fun _ _ _ _ _ _ us hl => match us, hl with | [_], _ => rfl
  refine ⟨fd, fun s u => b s [u] rfl, fun base k2 g2 => ?_⟩
  obtain ⟨fd2, FD2, o2⟩ := ok_law (P := P) c k2 g2
  have q : fd2 = fd := funD_inj FD2 FD
  rw [← q]
  exact o2.fg
end Lw
open PySem PySem.W PySem.Calls PyProof.Rows
theorem PySem.Challenge.cw_tablebills_k79_names_turned_holds : PySem.Challenge.rw_tablebills_k79_names_turned.Holds := by
  w_on; o_law
  refine HandSHeadRun.head_any (r := OpenLaw.row PySem.Challenge.rw_tablebills_k79_names_turned) (q := view (OpenLaw.row PySem.Challenge.rw_tablebills_k79_names_turned).prog [18]) (H := Lw.hs.hook) (ob := Lw.seen) (M := 20000) (loose := Lw.loose) (d := HandSHeadRun.topDef (OpenLaw.row PySem.Challenge.rw_tablebills_k79_names_turned).prog 18) (kwd := []) (fun s => Tr.Hs.look_eq (HandSHeadRun.getT_eq s))
    (by kernel_rfl) (fun s => by kernel_rfl) Lw.run (by kernel_rfl) (by kernel_rfl) (by kernel_rfl) (by rfl) (by first | assumption | decide +kernel) (by decide +kernel) ⟨rfl, rfl, rfl, rfl, rfl, by decide +kernel⟩ ?hw ?hc
  case hw => w_witness2
  case hc =>
    refine Tr.walkG (l := PySem.Challenge.rw_tablebills_k79_names_turned) (n := 63) (k := 5) (x := "_law_script") Lw.F_law rfl (by decide) (by kernel_rfl) ⟨rfl, by decide, by decide⟩ (fun w mg f h Y G hmg0 => ?_) fun ns hl => Lw.law_good ns hl
    obtain ⟨K, kin, c⟩ := Y
    have hmg : mg ("law" : PySem.Str) = some (.ref f) := by
      rw [← (show (HandSHeadRun.topDef (OpenLaw.row PySem.Challenge.rw_tablebills_k79_names_turned).prog 18).name = ("law" : PySem.Str) by kernel_rfl)]
      exact hmg0
    have z := Lw.law_ok (P := (PySem.Challenge.rw_tablebills_k79_names_turned).prog) kin G hmg c
    obtain ⟨fd, hb, hF⟩ := z
    exact ⟨K, fd, kin, hb, hF⟩

