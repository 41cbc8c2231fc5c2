import PyProof.Rows.All
import Wide.All
import OpenK.AllK
import Wide.FinOn
import HandS.ForMost
import HandS.Exc
import HandS.Defaults
import HandS.ExcInit
import HandS.IsInst
import HandS.Flow
import HandS.Style
import HandS.TryMany
import HandS.ExcOwn
import HandS.ExcField
import HandS.Small
import KE.KRevSl
import HandS.Codes
import HandS.Replace
import HandS.TupLe
import HandS.Head0
import HandS.Head1
import HandS.Head2
import HandS.HeadEnd
import HandS.HeadHook1
import HandS.HeadHook2
import PySem.Challenge.RW_stringbench_k73_reduced_signed_words
set_option Elab.async false
set_option linter.all false
set_option maxRecDepth 100000
set_option maxHeartbeats 4000000
/-! A typed calculus over the readings of the hand layer: states are told by descriptors, heaps stay hidden. -/
namespace TK
open PySem PySem.Spec PyProof.Rows L2

def Ex (H H' : Hp) : Prop := ∀ a o, H a = some o → H' a = some o
theorem Ex.refl (H : Hp) : Ex H H := fun _ _ h => h
theorem Ex.trans {H H1 H2 : Hp} (a : Ex H H1) (b : Ex H1 H2) : Ex H H2 := fun x o h => b x o (a x o h)
theorem Ex.new {H : Hp} {p : Addr} {o : HO} (h : H p = none) : Ex H (upd H p o) := fun a u e => by
  rw [upd_ne (ne_of_none e h)]; exact e
theorem Ex.back {H H' : Hp} {p : Addr} (e : Ex H H') (h : H' p = none) : H p = none := by
  cases q : H p with
  | none => rfl
  | some o => rw [e p o q] at h; cases h
theorem Ex.upd {H H' : Hp} {p : Addr} {o : HO} (e : Ex H H') (h : H p = none) : Ex H (upd H' p o) := fun a u ha => by
  rw [upd_ne (ne_of_none ha h)]; exact e a u ha
theorem Ex.upd2 {H H' : Hp} {p : Addr} {o : HO} (e : Ex H H') : Ex (L2.upd H p o) (L2.upd H' p o) := fun a u ha => by
  by_cases h : a = p
  · subst h; rw [upd_same] at ha ⊢; exact ha
  · rw [upd_ne h] at ha ⊢; exact e a u ha

/-! ### data that stays as it is -/
mutual
inductive Dq (H : Hp) : V → PyData → Prop
  | non : Dq H .non .none
  | bl (b : Bool) : Dq H (.bl b) (.bool b)
  | int (i : Int) : Dq H (.int i) (.int i)
  | str (x : Str) : Dq H (.str x) (.str x)
  | lst {a : Addr} {xs : List V} {ds : List PyData} : H a = some (.lst xs) → DqAll H xs ds → Dq H (.ref a) (.list ds)
  | tup {a : Addr} {xs : List V} {ds : List PyData} : H a = some (.tup xs) → DqAll H xs ds → Dq H (.ref a) (.tuple ds)
inductive DqAll (H : Hp) : List V → List PyData → Prop
  | nil : DqAll H [] []
  | cons {v : V} {vs : List V} {d : PyData} {ds : List PyData} : Dq H v d → DqAll H vs ds → DqAll H (v :: vs) (d :: ds)
end
mutual
theorem dq_mono {H H' : Hp} (e : Ex H H') : ∀ (d : PyData) (v : V), Dq H v d → Dq H' v d
  | .none, _, h => by cases h; exact .non
  | .bool b, _, h => by cases h; exact .bl b
  | .int i, _, h => by cases h; exact .int i
  | .str x, _, h => by cases h; exact .str x
  | .list ds, _, h => by
    cases h with
    | lst hs ha => exact .lst (e _ _ hs) (dqAll_mono e ds _ ha)
  | .tuple ds, _, h => by
    cases h with
    | tup hs ha => exact .tup (e _ _ hs) (dqAll_mono e ds _ ha)
  | .dict _, _, h => by cases h
theorem dqAll_mono {H H' : Hp} (e : Ex H H') : ∀ (ds : List PyData) (vs : List V), DqAll H vs ds → DqAll H' vs ds
  | [], _, h => by cases h; exact .nil
  | d :: ds, _, h => by
    cases h with
    | cons h1 h2 => exact .cons (dq_mono e d _ h1) (dqAll_mono e ds _ h2)
end
mutual
theorem dq_dp {K : PySem.W.Frag} {H : Hp} : ∀ (d : PyData) (v : V), Dq H v d → Dp K H v d
  | .none, _, h => by cases h; exact .non
  | .bool b, _, h => by cases h; exact .bl b
  | .int i, _, h => by cases h; exact .int i
  | .str x, _, h => by cases h; exact .str x
  | .list ds, _, h => by
    cases h with
    | lst hs ha => exact .lst (SqL.of hs) (dqAll_dp ds _ ha)
  | .tuple ds, _, h => by
    cases h with
    | tup hs ha => exact .tup (SqT.of hs) (dqAll_dp ds _ ha)
  | .dict _, _, h => by cases h
theorem dqAll_dp {K : PySem.W.Frag} {H : Hp} : ∀ (ds : List PyData) (vs : List V), DqAll H vs ds → DpAll K H vs ds
  | [], _, h => by cases h; exact .nil
  | d :: ds, _, h => by
    cases h with
    | cons h1 h2 => exact .cons (dq_dp d _ h1) (dqAll_dp ds _ h2)
end
section
variable {H : Hp} {v : V}
theorem dq_non (h : Dq H v .none) : v = .non := by cases h; rfl
theorem dq_bl {b : Bool} (h : Dq H v (.bool b)) : v = .bl b := by cases h; rfl
theorem dq_int {i : Int} (h : Dq H v (.int i)) : v = .int i := by cases h; rfl
theorem dq_str {x : Str} (h : Dq H v (.str x)) : v = .str x := by cases h; rfl
theorem dq_lst {ds : List PyData} (h : Dq H v (.list ds)) : ∃ a xs, v = .ref a ∧ H a = some (.lst xs) ∧ DqAll H xs ds := by
  cases h with
  | lst h1 h2 => exact ⟨_, _, rfl, h1, h2⟩
theorem dq_tup {ds : List PyData} (h : Dq H v (.tuple ds)) : ∃ a xs, v = .ref a ∧ H a = some (.tup xs) ∧ DqAll H xs ds := by
  cases h with
  | tup h1 h2 => exact ⟨_, _, rfl, h1, h2⟩
theorem DqAll.length : ∀ {xs : List V} {ds : List PyData}, DqAll H xs ds → xs.length = ds.length
  | _, _, .nil => rfl
  | _, _, .cons _ t => congrArg Nat.succ t.length
theorem DqAll.get : ∀ {xs : List V} {ds : List PyData} {i : Nat} {x : V}, DqAll H xs ds → xs[i]? = some x → ∃ d, ds[i]? = some d ∧ Dq H x d
  | _, _, _, _, .nil, e => by simp at e
  | _, _, 0, _, .cons r _, e => by
    have e' := Option.some.inj e
    subst e'
    exact ⟨_, rfl, r⟩
  | _, _, i + 1, x, .cons _ t, e => DqAll.get (i := i) (x := x) t e
theorem DqAll.get' : ∀ {xs : List V} {ds : List PyData} {i : Nat} {d : PyData}, DqAll H xs ds → ds[i]? = some d → ∃ x, xs[i]? = some x ∧ Dq H x d
  | _, _, _, _, .nil, e => by simp at e
  | _, _, 0, _, .cons r _, e => by
    have e' := Option.some.inj e
    subst e'
    exact ⟨_, rfl, r⟩
  | _, _, i + 1, x, .cons _ t, e => DqAll.get' (i := i) (d := x) t e
theorem DqAll.append : ∀ {xs ys : List V} {ds es : List PyData}, DqAll H xs ds → DqAll H ys es → DqAll H (xs ++ ys) (ds ++ es)
  | _, _, _, _, .nil, s => s
  | _, _, _, _, .cons r t, s => .cons r (DqAll.append t s)
theorem DqAll.take : ∀ {xs : List V} {ds : List PyData} (n : Nat), DqAll H xs ds → DqAll H (xs.take n) (ds.take n)
  | _, _, 0, _ => .nil
  | _, _, _ + 1, .nil => .nil
  | _, _, n + 1, .cons r t => .cons r (DqAll.take n t)
theorem DqAll.drop : ∀ {xs : List V} {ds : List PyData} (n : Nat), DqAll H xs ds → DqAll H (xs.drop n) (ds.drop n)
  | _, _, 0, r => r
  | _, _, _ + 1, .nil => .nil
  | _, _, n + 1, .cons _ t => DqAll.drop n t
end

/-! ### what holds of a heap and of each larger one -/
structure Up where
  p : Hp → Prop
  mono : ∀ {I I' : Hp}, Ex I I' → p I → p I'
def Up.le (P F : Up) : Prop := ∀ I, P.p I → F.p I
theorem Up.le.refl (P : Up) : P.le P := fun _ h => h
theorem Up.le.trans {P Q R : Up} (a : P.le Q) (b : Q.le R) : P.le R := fun I h => b I (a I h)
def Up.and (P F : Up) : Up := ⟨fun I => P.p I ∧ F.p I, fun e h => ⟨P.mono e h.1, F.mono e h.2⟩⟩
theorem Up.and_l {P F : Up} : (P.and F).le P := fun _ h => h.1
theorem Up.and_r {P F : Up} : (P.and F).le F := fun _ h => h.2

/-! ### descriptors -/
inductive Sc where
  | d (x : PyData)
  | v (x : V)
  | u (U : V → Up)
section
def Sc.p (s : Sc) (I : Hp) (u : V) : Prop := match s with
  | .d x => Dq I u x
  | .v x => u = x
  | .u U => (U u).p I
theorem Sc.mono {s : Sc} {I I' : Hp} {u : V} (e : Ex I I') (h : s.p I u) : s.p I' u := by
  cases s with
  | d x => exact dq_mono e x u h
  | v x => exact h
  | u U => exact (U u).mono e h
def sat (s : Sc) (u : V) : Up := ⟨fun I => s.p I u, fun e h => s.mono e h⟩
def ScL (I : Hp) (us : List V) (ss : List Sc) : Prop := Paired (fun u s => Sc.p s I u) us ss
theorem ScL.mono {I I' : Hp} (e : Ex I I') : ∀ {us : List V} {ss : List Sc}, ScL I us ss → ScL I' us ss
  | _, _, .nil => .nil
  | _, _, .cons h t => .cons (Sc.mono e h) (ScL.mono e t)
def satL (ss : List Sc) (us : List V) : Up := ⟨fun I => ScL I us ss, fun e h => ScL.mono e h⟩
/-- named values -/
def ScN (I : Hp) {κ : Type} (us : List (κ × V)) (ss : List (κ × Sc)) : Prop := Paired (fun (u : κ × V) (s : κ × Sc) => u.1 = s.1 ∧ Sc.p s.2 I u.2) us ss
theorem ScN.mono {κ : Type} {I I' : Hp} (e : Ex I I') : ∀ {us : List (κ × V)} {ss : List (κ × Sc)}, ScN I us ss → ScN I' us ss
  | _, _, .nil => .nil
  | _, _, .cons h t => .cons ⟨h.1, Sc.mono e h.2⟩ (ScN.mono e t)
/-- an exception's dict -/
def xat (fs : Option (List (Str × Sc))) (d : Option Addr) : Up := ⟨fun I => match fs, d with
  | none, none => True
  | some fs, some a => ∃ us, I a = some (.xd us) ∧ ScN I us fs
  | _, _ => False, fun {I I'} e h => by
    cases fs with
    | none => cases d with
      | none => exact True.intro
      | some a => exact h
    | some fs => cases d with
      | none => exact h
      | some a =>
        obtain ⟨us, h1, h2⟩ := h
        exact ⟨us, e _ _ h1, ScN.mono e h2⟩⟩

/-! ### what may change -/
inductive MO where
  | lst (ss : List Sc)
  | dic (kvs : List (Key × Sc))
def MO.p (I H : Hp) (a : Addr) : MO → Prop
  | .lst ss => ∃ us, H a = some (.lst us) ∧ ScL I us ss
  | .dic kvs => ∃ us, H a = some (.dK us) ∧ ScN I us kvs
theorem MO.there {I H : Hp} {a : Addr} {o : MO} (h : o.p I H a) : ∃ u, H a = some u := by
  cases o with
  | lst ss => obtain ⟨us, e, _⟩ := h; exact ⟨_, e⟩
  | dic ss => obtain ⟨us, e, _⟩ := h; exact ⟨_, e⟩
theorem MO.mono {I I' H H' : Hp} {a : Addr} {o : MO} (e : Ex I I') (k : H' a = H a) (h : o.p I H a) : o.p I' H' a := by
  cases o with
  | lst ss => obtain ⟨us, e1, h1⟩ := h; exact ⟨us, k.trans e1, ScL.mono e h1⟩
  | dic ss => obtain ⟨us, e1, h1⟩ := h; exact ⟨us, k.trans e1, ScN.mono e h1⟩
abbrev Mu := List (Addr × MO)

/-- the state: I, all that stays for ever, bears P; what may change is at hand -/
structure CfI (P : Up) (μ : Mu) (I H : Hp) : Prop where
  ex : Ex I H
  up : P.p I
  nd : (μ.map (·.1)).Nodup
  mu : ∀ q ∈ μ, I q.1 = none ∧ q.2.p I H q.1
def Cf (P : Up) (μ : Mu) (H : Hp) : Prop := ∃ I, CfI P μ I H

section
variable {P F : Up} {μ : Mu} {I H H' : Hp}
theorem Cf.le (c : Cf P μ H) (h : P.le F) : Cf F μ H := by
  obtain ⟨I, c⟩ := c
  exact ⟨I, c.ex, h I c.up, c.nd, c.mu⟩
/-- what holds at some larger heap -/
theorem Cf.at (c : Cf P μ H) : P.p H := by
  obtain ⟨I, c⟩ := c
  exact P.mono c.ex c.up
/-- a new object that stays -/
theorem Cf.new {p : Addr} {o : HO} (c : Cf P μ H) (hp : H p = none) (hF : ∀ I, Ex I H → P.p I → F.p (upd I p o)) : Cf (P.and F) μ (upd H p o) := by
  obtain ⟨I, c⟩ := c
  have hI : I p = none := c.ex.back hp
  refine ⟨upd I p o, c.ex.upd2, ⟨P.mono (Ex.new hI) c.up, hF I c.ex c.up⟩, c.nd, fun q hq => ?_⟩
  obtain ⟨h1, h2⟩ := c.mu q hq
  have hne : q.1 ≠ p := fun z => by
    obtain ⟨u, e⟩ := MO.there h2
    rw [z, hp] at e; cases e
  exact ⟨by rw [upd_ne hne]; exact h1, MO.mono (Ex.new hI) (upd_ne hne) h2⟩
/-- a new object that may change -/
theorem Cf.newM {p : Addr} {o : HO} {m : MO} (c : Cf P μ H) (hp : H p = none) (hm : ∀ I, Ex I H → P.p I → m.p I (upd H p o) p) : Cf P ((p, m) :: μ) (upd H p o) := by
  obtain ⟨I, c⟩ := c
  have hI : I p = none := c.ex.back hp
  have hne : ∀ q ∈ μ, q.1 ≠ p := fun q hq z => by
    obtain ⟨u, e⟩ := MO.there (c.mu q hq).2
    rw [z, hp] at e; cases e
  refine ⟨I, c.ex.upd hI, c.up, ?_, fun q hq => ?_⟩
  · rw [List.map_cons, List.nodup_cons]
    refine ⟨fun hmem => ?_, c.nd⟩
    obtain ⟨q, hq, e⟩ := List.mem_map.mp hmem
    exact hne q hq e
  · rcases List.mem_cons.mp hq with rfl | hq
    · exact ⟨hI, hm I c.ex c.up⟩
    · obtain ⟨h1, h2⟩ := c.mu q hq
      exact ⟨h1, MO.mono (Ex.refl I) (upd_ne (hne q hq)) h2⟩
theorem mem_set {α : Type} {l : List α} {k : Nat} {x y : α} (h : y ∈ l.set k x) : y = x ∨ ∃ j, j ≠ k ∧ l[j]? = some y := by
  obtain ⟨j, hj⟩ := List.mem_iff_getElem?.mp h
  by_cases e : k = j
  · subst e
    by_cases hk : k < l.length
    · rw [List.getElem?_set_self hk] at hj
      exact .inl (Option.some.inj hj).symm
    · rw [List.getElem?_eq_none (by rw [List.length_set]; omega)] at hj; cases hj
  · rw [List.getElem?_set_ne e] at hj
    exact .inr ⟨j, fun z => e z.symm, hj⟩
theorem fst_set {α β : Type} : ∀ {l : List (α × β)} {k : Nat} {a : α} {b c : β}, l[k]? = some (a, b) → (l.set k (a, c)).map (·.1) = l.map (·.1)
  | [], k, a, b, c, h => by simp at h
  | x :: l, 0, a, b, c, h => by
    have e : x = (a, b) := Option.some.inj h
    subst e; rfl
  | x :: l, k + 1, a, b, c, h => by
    show x.1 :: (l.set k (a, c)).map (·.1) = x.1 :: l.map (·.1)
    rw [fst_set (l := l) (k := k) (b := b) h]
/-- a change -/
theorem Cf.set {a : Addr} {k : Nat} {m m' : MO} {o : HO} (c : Cf P μ H) (hk : μ[k]? = some (a, m)) (hm : ∀ I, Ex I H → P.p I → m.p I H a → m'.p I (upd H a o) a) : Cf P (μ.set k (a, m')) (upd H a o) := by
  obtain ⟨I, c⟩ := c
  have hmem : (a, m) ∈ μ := List.mem_of_getElem? hk
  obtain ⟨hI, hM⟩ := c.mu _ hmem
  refine ⟨I, c.ex.upd hI, c.up, by rw [fst_set hk]; exact c.nd, fun q hq => ?_⟩
  rcases mem_set hq with rfl | ⟨j, hj, e⟩
  · exact ⟨hI, hm I c.ex c.up hM⟩
  · obtain ⟨h1, h2⟩ := c.mu q (List.mem_of_getElem? e)
    have hne : q.1 ≠ a := fun z => by
      have e1 : (μ.map (·.1))[j]? = some a := by rw [List.getElem?_map, e]; simp [z]
      have e2 : (μ.map (·.1))[k]? = some a := by rw [List.getElem?_map, hk]; rfl
      exact hj (nd_ix c.nd e1 e2)
    exact ⟨h1, MO.mono (Ex.refl I) (upd_ne hne) h2⟩
/-- what is at hand is read -/
theorem Cf.get {a : Addr} {m : MO} (c : Cf P μ H) {k : Nat} (hk : μ[k]? = some (a, m)) : ∃ I, Ex I H ∧ P.p I ∧ I a = none ∧ m.p I H a := by
  obtain ⟨I, c⟩ := c
  obtain ⟨h1, h2⟩ := c.mu _ (List.mem_of_getElem? hk)
  exact ⟨I, c.ex, c.up, h1, h2⟩
/-- what is at hand is let go: it stays as it is from now on -/
theorem Cf.freeze {a : Addr} {m : MO} {k : Nat} (c : Cf P μ H) (hk : μ[k]? = some (a, m)) (hF : ∀ I o, I a = none → H a = some o → P.p I → m.p I H a → F.p (upd I a o)) : Cf (P.and F) (μ.eraseIdx k) H := by
  obtain ⟨I, c⟩ := c
  have hmem : (a, m) ∈ μ := List.mem_of_getElem? hk
  obtain ⟨hI, hM⟩ := c.mu _ hmem
  obtain ⟨o, ho⟩ := MO.there hM
  have nd' : ((μ.eraseIdx k).map (·.1)).Nodup := by
    refine List.Sublist.nodup (l₂ := μ.map (·.1)) ?_ c.nd
    exact (List.eraseIdx_sublist μ k).map _
  refine ⟨upd I a o, fun b u hb => ?_, ⟨P.mono (Ex.new hI) c.up, hF I o hI ho c.up hM⟩, nd', fun q hq => ?_⟩
  · by_cases hba : b = a
    · rw [hba, upd_same] at hb; rw [hba, ho]; exact hb
    · rw [upd_ne hba] at hb; exact c.ex b u hb
  · obtain ⟨j, hj⟩ := List.mem_iff_getElem?.mp hq
    obtain ⟨h1, h2⟩ := c.mu q ((List.eraseIdx_sublist μ k).subset hq)
    have hne : q.1 ≠ a := fun z => by
      rw [List.getElem?_eraseIdx] at hj
      have e2 : (μ.map (·.1))[k]? = some a := by rw [List.getElem?_map, hk]; rfl
      split at hj
      · rename_i hlt
        have e1 : (μ.map (·.1))[j]? = some a := by rw [List.getElem?_map, hj]; simp [z]
        exact absurd (nd_ix c.nd e1 e2) (Nat.ne_of_lt hlt)
      · rename_i hlt
        have e1 : (μ.map (·.1))[j + 1]? = some a := by rw [List.getElem?_map, hj]; simp [z]
        have := nd_ix c.nd e1 e2
        omega
    exact ⟨by rw [upd_ne hne]; exact h1, MO.mono (Ex.new hI) rfl h2⟩
end

/-! ### slots -/
abbrev Rho := List (Option Sc)
def Sl (σ : L2.St) (ρ : Rho) : Up := ⟨fun I => σ.length = ρ.length ∧ ∀ (i : Nat) (s : Sc), ρ[i]? = some (some s) → ∃ u, σ[i]? = some (some u) ∧ Sc.p s I u,
  fun e h => ⟨h.1, fun i s hi => by
    obtain ⟨u, h1, h2⟩ := h.2 i s hi
    exact ⟨u, h1, Sc.mono e h2⟩⟩⟩
section
variable {σ : L2.St} {ρ : Rho}
theorem Sl.set {I : Hp} {i : Nat} {s : Sc} {u : V} (h : (Sl σ ρ).p I) (hu : s.p I u) : (Sl (σ.set i (some u)) (ρ.set i (some s))).p I := by
  refine ⟨by rw [List.length_set, List.length_set]; exact h.1, fun j t hj => ?_⟩
  by_cases e : i = j
  · subst e
    by_cases hl : i < ρ.length
    · rw [List.getElem?_set_self hl] at hj
      have e2 : s = t := Option.some.inj (Option.some.inj hj)
      subst e2
      exact ⟨u, List.getElem?_set_self (by rw [h.1]; exact hl), hu⟩
    · rw [List.getElem?_eq_none (by rw [List.length_set]; omega)] at hj; cases hj
  · rw [List.getElem?_set_ne e] at hj
    obtain ⟨w, h1, h2⟩ := h.2 j t hj
    exact ⟨w, by rw [List.getElem?_set_ne e]; exact h1, h2⟩
/-- slots forgotten -/
theorem Sl.forget {I : Hp} {ρ' : Rho} (h : (Sl σ ρ).p I) (hl : ρ'.length = ρ.length) (hf : ∀ (i : Nat) (s : Sc), ρ'[i]? = some (some s) → ρ[i]? = some (some s)) : (Sl σ ρ').p I :=
  ⟨h.1.trans hl.symm, fun i s hi => h.2 i s (hf i s hi)⟩
def wipeR (ρ : Rho) : List Nat → Rho
  | [] => ρ
  | v :: vs => (wipeR ρ vs).set v none
theorem Sl.wipe {I : Hp} (h : (Sl σ ρ).p I) : ∀ vs : List Nat, (Sl (L2.wipe σ vs) (wipeR ρ vs)).p I
  | [] => h
  | v :: vs => by
    have q := Sl.wipe h vs
    refine ⟨by unfold L2.wipe wipeR; rw [List.length_set, List.length_set]; exact q.1, fun j t hj => ?_⟩
    unfold wipeR at hj
    unfold L2.wipe
    by_cases e : v = j
    · subst e
      by_cases hl : v < (wipeR ρ vs).length
      · rw [List.getElem?_set_self hl] at hj; cases hj
      · rw [List.getElem?_eq_none (by rw [List.length_set]; omega)] at hj; cases hj
    · rw [List.getElem?_set_ne e] at hj ⊢
      exact q.2 j t hj
end
end
end TK

namespace TK
open PySem PySem.Spec PyProof.Rows L2

abbrev Tx (l : List Nat) : Str := ⟨l.toArray⟩
abbrev T (l : List Nat) : Sc := .d (.str ⟨l.toArray⟩)
abbrev I (i : Int) : Sc := .d (.int i)
abbrev B (b : Bool) : Sc := .d (.bool b)
abbrev N0 : Sc := .d .none
theorem tx_len (l : List Nat) : Str.length (Tx l) = l.length := by simp [Str.length, Tx]
theorem tx_inj {a b : List Nat} (h : Tx a = Tx b) : a = b := by
  have := congrArg (fun x : Str => x.cps.toList) h
  simpa [Tx] using this
theorem tx_eta (x : Str) : Tx x.cps.toList = x := by cases x; rfl

/-! ### the judgements -/
/-- what stands around: what stays, what may change (behind) -/
structure Fr where
  up : Up
  mu : Mu
def Fle (P : Up) (μf : Mu) (F : Fr) : Prop := P.le F.up ∧ ∃ μx, μf = μx ++ F.mu
section
variable (F : Fr) (ρ : Rho) (μ : Mu)
def EvM (te : TE) (Φ : Sc → Mu → Prop) : Prop := ∀ (P : Up) (μf : Mu), Fle P μf F → ∀ (σ : L2.St) (H : Hp) (Q : VK), Cf (P.and (Sl σ ρ)) (μ ++ μf) H →
  (∀ s μ' v H', Φ s μ' → Cf ((P.and (Sl σ ρ)).and (sat s v)) (μ' ++ μf) H' → Q v H') → te σ H Q
def EvT (tt : TT) (Φ : Bool → Mu → Prop) : Prop := ∀ (P : Up) (μf : Mu), Fle P μf F → ∀ (σ : L2.St) (H : Hp) (Q : Bool → Hp → Prop), Cf (P.and (Sl σ ρ)) (μ ++ μf) H →
  (∀ b μ' H', Φ b μ' → Cf (P.and (Sl σ ρ)) (μ' ++ μf) H' → Q b H') → tt σ H Q
def EvA (ta : TA) (Φ : List Sc → Mu → Prop) : Prop := ∀ (P : Up) (μf : Mu), Fle P μf F → ∀ (σ : L2.St) (H : Hp) (Q : List V → Hp → Prop), Cf (P.and (Sl σ ρ)) (μ ++ μf) H →
  (∀ ss μ' vs H', Φ ss μ' → Cf ((P.and (Sl σ ρ)).and (satL ss vs)) (μ' ++ μf) H' → Q vs H') → ta σ H Q
def EvO (to : TO) (Φ : Option Int → Mu → Prop) : Prop := ∀ (P : Up) (μf : Mu), Fle P μf F → ∀ (σ : L2.St) (H : Hp) (Q : Option Int → Hp → Prop), Cf (P.and (Sl σ ρ)) (μ ++ μf) H →
  (∀ o μ' H', Φ o μ' → Cf (P.and (Sl σ ρ)) (μ' ++ μf) H' → Q o H') → to σ H Q
end
section
variable (F : Fr) (μ : Mu)
def RO (r : R2) (s t : Sc) (Φ : Sc → Mu → Prop) : Prop := ∀ (P : Up) (μf : Mu), Fle P μf F → ∀ (H : Hp) (x y : V) (Q : VK), Cf ((P.and (sat s x)).and (sat t y)) (μ ++ μf) H →
  (∀ s μ' v H', Φ s μ' → Cf (P.and (sat s v)) (μ' ++ μf) H' → Q v H') → r x y H Q
def RU (r : V → Hp → VK → Prop) (s : Sc) (Φ : Sc → Mu → Prop) : Prop := ∀ (P : Up) (μf : Mu), Fle P μf F → ∀ (H : Hp) (x : V) (Q : VK), Cf (P.and (sat s x)) (μ ++ μf) H →
  (∀ s μ' v H', Φ s μ' → Cf (P.and (sat s v)) (μ' ++ μf) H' → Q v H') → r x H Q
def RC (r : List V → Hp → VK → Prop) (ss : List Sc) (Φ : Sc → Mu → Prop) : Prop := ∀ (P : Up) (μf : Mu), Fle P μf F → ∀ (H : Hp) (xs : List V) (Q : VK), Cf (P.and (satL ss xs)) (μ ++ μf) H →
  (∀ s μ' v H', Φ s μ' → Cf (P.and (sat s v)) (μ' ++ μf) H' → Q v H') → r xs H Q
def RM (r : V → List V → Hp → VK → Prop) (s : Sc) (ss : List Sc) (Φ : Sc → Mu → Prop) : Prop := ∀ (P : Up) (μf : Mu), Fle P μf F → ∀ (H : Hp) (x : V) (xs : List V) (Q : VK), Cf ((P.and (sat s x)).and (satL ss xs)) (μ ++ μf) H →
  (∀ s μ' v H', Φ s μ' → Cf (P.and (sat s v)) (μ' ++ μf) H' → Q v H') → r x xs H Q
def RS (r : V → Option Int → Option Int → Hp → VK → Prop) (s : Sc) (lo hi : Option Int) (Φ : Sc → Mu → Prop) : Prop := ∀ (P : Up) (μf : Mu), Fle P μf F → ∀ (H : Hp) (x : V) (Q : VK), Cf (P.and (sat s x)) (μ ++ μf) H →
  (∀ s μ' v H', Φ s μ' → Cf (P.and (sat s v)) (μ' ++ μf) H' → Q v H') → r x lo hi H Q
end
abbrev PN := Rho → Mu → Prop
def Sat (F : Fr) (ρ : Rho) (μ : Mu) (ts : TS) (N : PN) (R : Sc → Mu → Prop) (B C : PN) : Prop := ∀ (P : Up) (μf : Mu), Fle P μf F → ∀ (σ : L2.St) (H : Hp) (D : Ends), Cf (P.and (Sl σ ρ)) (μ ++ μf) H →
  (∀ ρ' μ' σ' H', N ρ' μ' → Cf (P.and (Sl σ' ρ')) (μ' ++ μf) H' → D.nx σ' H') → (∀ s μ' v H', R s μ' → Cf (P.and (sat s v)) (μ' ++ μf) H' → D.rt v H') →
  (∀ ρ' μ' σ' H', B ρ' μ' → Cf (P.and (Sl σ' ρ')) (μ' ++ μf) H' → D.bk σ' H') → (∀ ρ' μ' σ' H', C ρ' μ' → Cf (P.and (Sl σ' ρ')) (μ' ++ μf) H' → D.ct σ' H') → ts D σ H
/-- a target takes a value -/
def Gt (F : Fr) (ρ : Rho) (μ : Mu) (g : TG) (s : Sc) (Φ : PN) : Prop := ∀ (P : Up) (μf : Mu), Fle P μf F → ∀ (σ : L2.St) (H : Hp) (v : V) (Q : L2.St → Hp → Prop), Cf ((P.and (Sl σ ρ)).and (sat s v)) (μ ++ μf) H →
  (∀ ρ' μ' σ' H', Φ ρ' μ' → Cf (P.and (Sl σ' ρ')) (μ' ++ μf) H' → Q σ' H') → g v σ H Q
def Gts (F : Fr) (ρ : Rho) (μ : Mu) (g : TGs) (ss : List Sc) (Φ : PN) : Prop := ∀ (P : Up) (μf : Mu), Fle P μf F → ∀ (σ : L2.St) (H : Hp) (vs : List V) (Q : L2.St → Hp → Prop), Cf ((P.and (Sl σ ρ)).and (satL ss vs)) (μ ++ μf) H →
  (∀ ρ' μ' σ' H', Φ ρ' μ' → Cf (P.and (Sl σ' ρ')) (μ' ++ μf) H' → Q σ' H') → g vs σ H Q
/-- an iterator goes over these -/
def JW (P : Up) (J : It) (ds : List Sc) : Prop := ∀ (P' : Up), P'.le P → ∀ μ H, Cf P' μ H → ∀ i, (∀ s, ds[i]? = some s → J.go i H ∧ ∀ x H', J.yld i H x H' → Cf (P'.and (sat s x)) μ H') ∧ (ds[i]? = none → J.stop i H)
def EvI (F : Fr) (ρ : Rho) (μ : Mu) (wi : TI) (Φ : List Sc → Mu → Prop) : Prop := ∀ (P : Up) (μf : Mu), Fle P μf F → ∀ (σ : L2.St) (H : Hp) (R : It → Hp → Prop), Cf (P.and (Sl σ ρ)) (μ ++ μf) H →
  (∀ ds μ' H' J (P2 : Up), Φ ds μ' → P2.le P → Cf (P2.and (Sl σ ρ)) (μ' ++ μf) H' → JW P2 J ds → R J H') → wi σ H R

section
variable {F : Fr} {ρ : Rho} {μ : Mu} {te ta tb tc : TE} {tt tu : TT} {Φ : Sc → Mu → Prop} {Ψ : Bool → Mu → Prop}

theorem EvM.mono {Φ' : Sc → Mu → Prop} (h : EvM F ρ μ te Φ) (k : ∀ s μ', Φ s μ' → Φ' s μ') : EvM F ρ μ te Φ' := fun P μf hP σ H Q c q => h P μf hP σ H Q c fun s μ' v H' hs c' => q s μ' v H' (k s μ' hs) c'
theorem Sat.mono {ts : TS} {N N' : PN} {R R' : Sc → Mu → Prop} {B B' C C' : PN} (h : Sat F ρ μ ts N R B C) (k1 : ∀ r m, N r m → N' r m) (k2 : ∀ r m, R r m → R' r m) (k3 : ∀ r m, B r m → B' r m) (k4 : ∀ r m, C r m → C' r m) : Sat F ρ μ ts N' R' B' C' :=
  fun P μf hP σ H D c q1 q2 q3 q4 => h P μf hP σ H D c (fun r m s h' z => q1 r m s h' (k1 r m z)) (fun r m s h' z => q2 r m s h' (k2 r m z)) (fun r m s h' z => q3 r m s h' (k3 r m z)) (fun r m s h' z => q4 r m s h' (k4 r m z))

/-! ### names, constants -/
theorem ev_var {i : Nat} {s : Sc} (h : ρ[i]? = some (some s)) (q : Φ s μ) : EvM F ρ μ (tVar i) Φ := fun P μf hP σ H Q c k => by
  obtain ⟨I, c⟩ := c
  obtain ⟨u, h1, h2⟩ := c.up.2.2 i s h
  exact ⟨u, h1, k s μ u H q ⟨I, c.ex, ⟨c.up, h2⟩, c.nd, c.mu⟩⟩
theorem cf_add {P F : Up} {H : Hp} (c : Cf P μ H) (h : ∀ I, P.p I → F.p I) : Cf (P.and F) μ H := c.le fun I z => ⟨z, h I z⟩
theorem ev_cv {v : V} (q : Φ (.v v) μ) : EvM F ρ μ (tC v) Φ := fun P μf hP σ H Q c k => k _ μ v H q (cf_add c fun _ _ => rfl)
theorem ev_ci {i : Int} (q : Φ (I i) μ) : EvM F ρ μ (tC (.int i)) Φ := fun P μf hP σ H Q c k => k _ μ _ H q (cf_add c fun _ _ => .int i)
theorem ev_cb {b : Bool} (q : Φ (B b) μ) : EvM F ρ μ (tC (.bl b)) Φ := fun P μf hP σ H Q c k => k _ μ _ H q (cf_add c fun _ _ => .bl b)
theorem ev_cn (q : Φ N0 μ) : EvM F ρ μ (tC .non) Φ := fun P μf hP σ H Q c k => k _ μ _ H q (cf_add c fun _ _ => .non)
theorem ev_cs {x : Str} (q : Φ (T x.cps.toList) μ) : EvM F ρ μ (tC (.str x)) Φ := fun P μf hP σ H Q c k => k _ μ _ H q (cf_add c fun _ _ => by
  have e : (Sc.d (.str ⟨x.cps.toList.toArray⟩) : Sc) = .d (.str x) := by cases x; rfl
  show Sc.p (T x.cps.toList) _ _
  rw [show T x.cps.toList = Sc.d (.str x) from e]
  exact .str x)

/-! ### operators -/
theorem le_l {P : Up} {μf : Mu} {F : Fr} (h : Fle P μf F) {G : Up} : Fle (P.and G) μf F := ⟨fun I z => h.1 I z.1, h.2⟩
theorem le_t {P P2 : Up} {μf : Mu} {F : Fr} (h2 : P2.le P) (h : Fle P μf F) : Fle P2 μf F := ⟨fun I z => h.1 I (h2 I z), h.2⟩
theorem ev_op {r : R2} (h : EvM F ρ μ ta fun s μ1 => EvM F ρ μ1 tb fun t μ2 => RO F μ2 r s t Φ) : EvM F ρ μ (tOp r ta tb) Φ := fun P μf hP σ H Q c k =>
  h P μf hP σ H _ c fun s μ1 v H1 h1 c1 =>
    h1 (P.and (sat s v)) μf (le_l hP) σ H1 _ (c1.le fun I z => ⟨⟨z.1.1, z.2⟩, z.1.2⟩) fun t μ2 u H2 h2 c2 =>
      h2 (P.and (Sl σ ρ)) μf (le_l hP) H2 v u Q (c2.le fun I z => ⟨⟨⟨z.1.1.1, z.1.2⟩, z.1.1.2⟩, z.2⟩) k
theorem ev_un {r : V → Hp → VK → Prop} (h : EvM F ρ μ ta fun s μ1 => RU F μ1 r s Φ) : EvM F ρ μ (tUn r ta) Φ := fun P μf hP σ H Q c k =>
  h P μf hP σ H _ c fun s μ1 v H1 h1 c1 => h1 (P.and (Sl σ ρ)) μf (le_l hP) H1 v Q c1 k
theorem ev_if (h : EvT F ρ μ tt fun b μ1 => (b = true → EvM F ρ μ1 ta Φ) ∧ (b = false → EvM F ρ μ1 tb Φ)) : EvM F ρ μ (tIf tt ta tb) Φ := fun P μf hP σ H Q c k =>
  h P μf hP σ H _ c fun b μ1 H1 h1 c1 => by
    cases b with
    | true => exact h1.1 rfl P μf hP σ H1 Q c1 k
    | false => exact h1.2 rfl P μf hP σ H1 Q c1 k
/-! ### tests -/
theorem et_test (h : EvM F ρ μ te fun s μ1 => ∃ b, s = B b ∧ Ψ b μ1) : EvT F ρ μ (tTest te) Ψ := fun P μf hP σ H Q c k =>
  h P μf hP σ H _ c fun s μ1 v H1 h1 c1 => by
    obtain ⟨b, rfl, h1⟩ := h1
    exact ⟨b, dq_bl c1.at.2, k b μ1 H1 h1 (c1.le Up.and_l)⟩
theorem et_B (h : EvM F ρ μ te fun s μ1 => ∃ b, s = B b ∧ Ψ b μ1) : EvT F ρ μ (tB te) Ψ := et_test h
theorem et_and (h : EvT F ρ μ tt fun a μ1 => (a = true → EvT F ρ μ1 tu Ψ) ∧ (a = false → Ψ false μ1)) : EvT F ρ μ (tAnd tt tu) Ψ := fun P μf hP σ H Q c k =>
  h P μf hP σ H _ c fun b μ1 H1 h1 c1 => by
    cases b with
    | true => exact h1.1 rfl P μf hP σ H1 Q c1 k
    | false => exact k false μ1 H1 (h1.2 rfl) c1
theorem et_or (h : EvT F ρ μ tt fun a μ1 => (a = true → Ψ true μ1) ∧ (a = false → EvT F ρ μ1 tu Ψ)) : EvT F ρ μ (tOr tt tu) Ψ := fun P μf hP σ H Q c k =>
  h P μf hP σ H _ c fun b μ1 H1 h1 c1 => by
    cases b with
    | true => exact k true μ1 H1 (h1.1 rfl) c1
    | false => exact h1.2 rfl P μf hP σ H1 Q c1 k
theorem et_not (h : EvT F ρ μ tt fun a μ1 => Ψ (!a) μ1) : EvT F ρ μ (tNot tt) Ψ := fun P μf hP σ H Q c k =>
  h P μf hP σ H _ c fun b μ1 H1 h1 c1 => k (!b) μ1 H1 h1 c1
theorem ev_andV (h : EvM F ρ μ ta fun s μ1 => ∃ a, s = B a ∧ (a = true → EvM F ρ μ1 tb Φ) ∧ (a = false → Φ (B false) μ1)) : EvM F ρ μ (tAndV ta tb) Φ := fun P μf hP σ H Q c k =>
  h P μf hP σ H _ c fun s μ1 v H1 h1 c1 => by
    obtain ⟨a, rfl, h1⟩ := h1
    refine ⟨a, dq_bl c1.at.2, ?_⟩
    cases a with
    | true => exact h1.1 rfl P μf hP σ H1 Q (c1.le Up.and_l) k
    | false => exact k _ μ1 _ H1 (h1.2 rfl) (cf_add (c1.le Up.and_l) fun _ _ => .bl false)
theorem ev_orV (h : EvM F ρ μ ta fun s μ1 => ∃ a, s = B a ∧ (a = true → Φ (B true) μ1) ∧ (a = false → EvM F ρ μ1 tb Φ)) : EvM F ρ μ (tOrV ta tb) Φ := fun P μf hP σ H Q c k =>
  h P μf hP σ H _ c fun s μ1 v H1 h1 c1 => by
    obtain ⟨a, rfl, h1⟩ := h1
    refine ⟨a, dq_bl c1.at.2, ?_⟩
    cases a with
    | true => exact k _ μ1 _ H1 (h1.1 rfl) (cf_add (c1.le Up.and_l) fun _ _ => .bl true)
    | false => exact h1.2 rfl P μf hP σ H1 Q (c1.le Up.and_l) k
theorem ev_notV (h : EvM F ρ μ ta fun s μ1 => ∃ a, s = B a ∧ Φ (B (!a)) μ1) : EvM F ρ μ (tNotV ta) Φ := fun P μf hP σ H Q c k =>
  h P μf hP σ H _ c fun s μ1 v H1 h1 c1 => by
    obtain ⟨a, rfl, h1⟩ := h1
    exact ⟨a, dq_bl c1.at.2, k _ μ1 _ H1 h1 (cf_add (c1.le Up.and_l) fun _ _ => .bl _)⟩
/-- a value's truth -/
def Truthy : Sc → Bool → Prop
  | .d .none, k => k = false
  | .d (.bool b), k => k = b
  | .d (.int i), k => k = (i != 0)
  | .d (.str x), k => x.length ≤ sizeLine ∧ k = ((x.length : Int) != 0)
  | .d (.list ds), k => k = !ds.isEmpty
  | .d (.tuple ds), k => k = !ds.isEmpty
  | _, _ => False
theorem truthy_ok {K : PySem.W.Frag} {s : Sc} {k : Bool} {H : Hp} {v : V} (h : Truthy s k) (c : s.p H v) : TruV K v H k := by
  cases s with
  | v x => exact h.elim
  | u U => exact h.elim
  | d x =>
    cases x with
    | none => rw [dq_non c]; exact h
    | bool b => rw [dq_bl c]; exact h
    | int i => rw [dq_int c]; exact h
    | str x => rw [dq_str c]; exact h
    | list ds =>
      obtain ⟨a, xs, rfl, h1, h2⟩ := dq_lst c
      refine .inl ⟨xs, SqL.of h1, ?_⟩
      have e := h2.length
      have h' : k = !ds.isEmpty := h
      rw [h']
      cases xs <;> cases ds <;> first | rfl | cases e
    | tuple ds =>
      obtain ⟨a, xs, rfl, h1, h2⟩ := dq_tup c
      refine .inr (.inl ⟨xs, SqT.of h1, ?_⟩)
      have e := h2.length
      have h' : k = !ds.isEmpty := h
      rw [h']
      cases xs <;> cases ds <;> first | rfl | cases e
    | dict kv => exact h.elim
theorem et_truth {K : PySem.W.Frag} (h : EvM F ρ μ ta fun s μ1 => ∃ b, Truthy s b ∧ Ψ b μ1) : EvT F ρ μ (fun σ H Q => ta σ H fun x H' => ∃ k, TruV K x H' k ∧ Q k H') Ψ := fun P μf hP σ H Q c k =>
  h P μf hP σ H _ c fun s μ1 v H1 h1 c1 => by
    obtain ⟨b, ht, h1⟩ := h1
    exact ⟨b, truthy_ok ht c1.at.2, k b μ1 H1 h1 (c1.le Up.and_l)⟩
theorem ev_orT {K : PySem.W.Frag} (h : EvM F ρ μ ta fun s μ1 => ∃ b, Truthy s b ∧ (b = true → Φ s μ1) ∧ (b = false → EvM F ρ μ1 tb Φ)) : EvM F ρ μ (tOrT K ta tb) Φ := fun P μf hP σ H Q c k =>
  h P μf hP σ H _ c fun s μ1 v H1 h1 c1 => by
    obtain ⟨b, ht, h1⟩ := h1
    refine ⟨b, truthy_ok ht c1.at.2, ?_⟩
    cases b with
    | true => exact k s μ1 v H1 (h1.1 rfl) c1
    | false => exact h1.2 rfl P μf hP σ H1 Q (c1.le Up.and_l) k
theorem ev_notT {K : PySem.W.Frag} (h : EvM F ρ μ ta fun s μ1 => ∃ b, Truthy s b ∧ Φ (B (!b)) μ1) : EvM F ρ μ (tNotT K ta) Φ := fun P μf hP σ H Q c k =>
  h P μf hP σ H _ c fun s μ1 v H1 h1 c1 => by
    obtain ⟨b, ht, h1⟩ := h1
    exact ⟨b, truthy_ok ht c1.at.2, k _ μ1 _ H1 h1 (cf_add (c1.le Up.and_l) fun _ _ => .bl _)⟩

/-! ### arguments, tuples, lists -/
variable {tr : TA} {Θ : List Sc → Mu → Prop}
theorem ea_nil (q : Θ [] μ) : EvA F ρ μ tNil Θ := fun P μf hP σ H Q c k => k [] μ [] H q (cf_add c fun _ _ => .nil)
theorem ea_cons (h : EvM F ρ μ ta fun s μ1 => EvA F ρ μ1 tr fun ss μ2 => Θ (s :: ss) μ2) : EvA F ρ μ (tCons ta tr) Θ := fun P μf hP σ H Q c k =>
  h P μf hP σ H _ c fun s μ1 v H1 h1 c1 =>
    h1 (P.and (sat s v)) μf (le_l hP) σ H1 _ (c1.le fun I z => ⟨⟨z.1.1, z.2⟩, z.1.2⟩) fun ss μ2 vs H2 h2 c2 =>
      k (s :: ss) μ2 (v :: vs) H2 h2 (c2.le fun I z => ⟨⟨z.1.1.1, z.1.2⟩, .cons z.1.1.2 z.2⟩)
theorem satL_data {ds : List PyData} : ∀ {vs : List V} {I : Hp}, (satL (ds.map Sc.d) vs).p I → DqAll I vs ds := by
  induction ds with
  | nil => intro vs I h; cases h; exact .nil
  | cons d ds ih => intro vs I h; cases h with | cons h1 h2 => exact .cons h1 (ih h2)
theorem satL_of_data {ds : List PyData} : ∀ {vs : List V} {I : Hp}, DqAll I vs ds → (satL (ds.map Sc.d) vs).p I := by
  induction ds with
  | nil => intro vs I h; cases h; exact .nil
  | cons d ds ih => intro vs I h; cases h with | cons h1 h2 => exact .cons h1 (ih h2)
theorem satL_len {ss : List Sc} {vs : List V} {I : Hp} (h : (satL ss vs).p I) : vs.length = ss.length := Paired.length h
theorem sz_of {n : Nat} (h : n ≤ 16777216) : n ≤ sizeLine := by rw [sizeLine_eq]; exact h
/-- a tuple of data -/
theorem ev_tup {t : TA} (h : EvA F ρ μ t fun ss μ1 => ∃ ds : List PyData, ss = ds.map Sc.d ∧ ds.length ≤ 16777216 ∧ Φ (.d (.tuple ds)) μ1) : EvM F ρ μ (tTup t) Φ := fun P μf hP σ H Q c k =>
  h P μf hP σ H _ c fun ss μ1 vs H1 h1 c1 => by
    obtain ⟨ds, rfl, hz, h1⟩ := h1
    have hl := satL_len c1.at.2
    rw [List.length_map] at hl
    refine ⟨sz_of (by omega), fun p hp => k _ μ1 _ _ h1 ?_⟩
    exact (c1.new (F := sat (.d (.tuple ds)) (.ref p)) hp fun I e z => .tup upd_same (dqAll_mono (Ex.new (e.back hp)) _ _ (satL_data z.2))).le fun I z => ⟨z.1.1, z.2⟩
theorem ev_lst {t : TA} (h : EvA F ρ μ t fun ss μ1 => ∃ ds : List PyData, ss = ds.map Sc.d ∧ ds.length ≤ 16777216 ∧ Φ (.d (.list ds)) μ1) : EvM F ρ μ (tLst t) Φ := fun P μf hP σ H Q c k =>
  h P μf hP σ H _ c fun ss μ1 vs H1 h1 c1 => by
    obtain ⟨ds, rfl, hz, h1⟩ := h1
    have hl := satL_len c1.at.2
    rw [List.length_map] at hl
    refine ⟨sz_of (by omega), fun p hp => k _ μ1 _ _ h1 ?_⟩
    exact (c1.new (F := sat (.d (.list ds)) (.ref p)) hp fun I e z => .lst upd_same (dqAll_mono (Ex.new (e.back hp)) _ _ (satL_data z.2))).le fun I z => ⟨z.1.1, z.2⟩
/-- a list that may change -/
theorem ev_lstM {t : TA} (h : EvA F ρ μ t fun ss μ1 => ss.length ≤ 16777216 ∧ ∀ p, Φ (.v (.ref p)) ((p, .lst ss) :: μ1)) : EvM F ρ μ (tLst t) Φ := fun P μf hP σ H Q c k =>
  h P μf hP σ H _ c fun ss μ1 vs H1 h1 c1 => by
    have hl := satL_len c1.at.2
    refine ⟨sz_of (by omega), fun p hp => k _ _ _ _ (h1.2 p) ?_⟩
    exact (c1.newM (m := .lst ss) hp fun I e z => ⟨vs, upd_same, z.2⟩).le fun I z => ⟨z.1, rfl⟩

/-! ### built-ins, methods, slices -/
theorem ev_CB {r : List V → Hp → VK → Prop} {t : TA} (h : EvA F ρ μ t fun ss μ1 => RC F μ1 r ss Φ) : EvM F ρ μ (tCB r t) Φ := fun P μf hP σ H Q c k =>
  h P μf hP σ H _ c fun ss μ1 vs H1 h1 c1 => h1 (P.and (Sl σ ρ)) μf (le_l hP) H1 vs Q c1 k
/-- what type a receiver has -/
def TyS (μ : Mu) (T : String) : Sc → Prop
  | .d (.str _) => T = "str"
  | .d (.int _) => T = "int"
  | .d (.list _) => T = "list"
  | .v (.ref p) => (T = "list" ∧ ∃ (k : Nat) (ss : List Sc), μ[k]? = some (p, MO.lst ss)) ∨ (T = "dict" ∧ ∃ (k : Nat) (ss : List (Key × Sc)), μ[k]? = some (p, MO.dic ss))
  | _ => False
theorem ix_left {μ μf : Mu} {k : Nat} {q : Addr × MO} (h : μ[k]? = some q) : (μ ++ μf)[k]? = some q := by
  rw [List.getElem?_append_left (List.getElem?_eq_some_iff.mp h).1]; exact h
theorem set_left {μ μf : Mu} {k : Nat} {q r : Addr × MO} (h : μ[k]? = some q) : (μ ++ μf).set k r = μ.set k r ++ μf := by
  rw [List.set_append_left _ _ (List.getElem?_eq_some_iff.mp h).1]
theorem tyS_ok {K : PySem.W.Frag} {s : Sc} {P : Up} {T : String} {H : Hp} {v : V} {μf : Mu} (h : TyS μ T s) (c : Cf (P.and (sat s v)) (μ ++ μf) H) : tyV K T v H := by
  cases s with
  | u U => exact h.elim
  | v x =>
    cases x with
    | ref p =>
      have e : v = .ref p := c.at.2
      subst e
      rcases h with ⟨rfl, k, ss, hk⟩ | ⟨rfl, k, ss, hk⟩
      · obtain ⟨I, e1, _, _, us, e3, _⟩ := c.get (ix_left hk)
        exact .inl ⟨rfl, us, SqL.of e3⟩
      · obtain ⟨I, e1, _, _, us, e3, _⟩ := c.get (ix_left hk)
        exact .inr (.inr (.inl ⟨rfl, .inl ⟨us, e3⟩⟩))
    | _ => exact h.elim
  | d x =>
    cases x with
    | str y => rw [dq_str c.at.2]; exact h
    | int y => rw [dq_int c.at.2]; exact h
    | list ds =>
      obtain ⟨a, xs, rfl, h1, h2⟩ := dq_lst c.at.2
      exact .inl ⟨h, xs, SqL.of h1⟩
    | _ => exact h.elim
theorem ev_bm {K : PySem.W.Frag} {T : String} {r : V → List V → Hp → VK → Prop} {to : TE} {t : TA} (h : EvM F ρ μ to fun s μ1 => TyS μ1 T s ∧ EvA F ρ μ1 t fun ss μ2 => RM F μ2 r s ss Φ) : EvM F ρ μ (tBM K T r to t) Φ := fun P μf hP σ H Q c k =>
  h P μf hP σ H _ c fun s μ1 v H1 h1 c1 =>
    ⟨tyS_ok h1.1 c1, h1.2 (P.and (sat s v)) μf (le_l hP) σ H1 _ (c1.le fun I z => ⟨⟨z.1.1, z.2⟩, z.1.2⟩) fun ss μ2 vs H2 h2 c2 =>
      h2 (P.and (Sl σ ρ)) μf (le_l hP) H2 v vs Q (c2.le fun I z => ⟨⟨⟨z.1.1.1, z.1.2⟩, z.1.1.2⟩, z.2⟩) k⟩
theorem ev_bm0 {K : PySem.W.Frag} {T : String} {r : V → List V → Hp → VK → Prop} {to : TE} (h : EvM F ρ μ to fun s μ1 => TyS μ1 T s ∧ RM F μ1 r s [] Φ) : EvM F ρ μ (tBM0 K T r to) Φ := fun P μf hP σ H Q c k =>
  h P μf hP σ H _ c fun s μ1 v H1 h1 c1 => ⟨tyS_ok h1.1 c1, h1.2 (P.and (Sl σ ρ)) μf (le_l hP) H1 v [] Q (cf_add c1 fun _ _ => .nil) k⟩
theorem ev_m0 {r : V → List V → Hp → VK → Prop} {to : TE} (h : EvM F ρ μ to fun s μ1 => ∃ x, s = T x ∧ RM F μ1 r s [] Φ) : EvM F ρ μ (tM0 r to) Φ := fun P μf hP σ H Q c k =>
  h P μf hP σ H _ c fun s μ1 v H1 h1 c1 => by
    obtain ⟨x, rfl, h1⟩ := h1
    exact ⟨⟨_, dq_str c1.at.2⟩, h1 (P.and (Sl σ ρ)) μf (le_l hP) H1 v [] Q (cf_add c1 fun _ _ => .nil) k⟩
theorem ev_m1 {r : V → List V → Hp → VK → Prop} {to te : TE} (h : EvM F ρ μ to fun s μ1 => ∃ x, s = T x ∧ EvM F ρ μ1 te fun t μ2 => RM F μ2 r s [t] Φ) : EvM F ρ μ (tM1 r to te) Φ := fun P μf hP σ H Q c k =>
  h P μf hP σ H _ c fun s μ1 v H1 h1 c1 => by
    obtain ⟨x, rfl, h1⟩ := h1
    exact ⟨⟨_, dq_str c1.at.2⟩, h1 (P.and (sat (T x) v)) μf (le_l hP) σ H1 _ (c1.le fun I z => ⟨⟨z.1.1, z.2⟩, z.1.2⟩) fun t μ2 u H2 h2 c2 =>
      h2 (P.and (Sl σ ρ)) μf (le_l hP) H2 v [u] Q (c2.le fun I z => ⟨⟨⟨z.1.1.1, z.1.2⟩, z.1.1.2⟩, .cons z.2 .nil⟩) k⟩
theorem eo_none {Ω : Option Int → Mu → Prop} (q : Ω none μ) : EvO F ρ μ tNoPart Ω := fun P μf hP σ H Q c k => k none μ H q c
theorem eo_some {Ω : Option Int → Mu → Prop} (h : EvM F ρ μ te fun s μ1 => ∃ i, s = I i ∧ Ω (some i) μ1) : EvO F ρ μ (tPart te) Ω := fun P μf hP σ H Q c k =>
  h P μf hP σ H _ c fun s μ1 v H1 h1 c1 => by
    obtain ⟨i, rfl, h1⟩ := h1
    exact ⟨i, dq_int c1.at.2, k _ μ1 H1 h1 (c1.le Up.and_l)⟩
theorem ev_sl {r : V → Option Int → Option Int → Hp → VK → Prop} {tl th : TO} (h : EvM F ρ μ te fun s μ1 => EvO F ρ μ1 tl fun lo μ2 => EvO F ρ μ2 th fun hi μ3 => RS F μ3 r s lo hi Φ) : EvM F ρ μ (tSl r te tl th) Φ := fun P μf hP σ H Q c k =>
  h P μf hP σ H _ c fun s μ1 v H1 h1 c1 =>
    h1 (P.and (sat s v)) μf (le_l hP) σ H1 _ (c1.le fun I z => ⟨⟨z.1.1, z.2⟩, z.1.2⟩) fun lo μ2 H2 h2 c2 =>
      h2 (P.and (sat s v)) μf (le_l hP) σ H2 _ c2 fun hi μ3 H3 h3 c3 =>
        h3 (P.and (Sl σ ρ)) μf (le_l hP) H3 v Q (c3.le fun I z => ⟨⟨z.1.1, z.2⟩, z.1.2⟩) k

/-! ### statements -/
variable {N : PN} {R : Sc → Mu → Prop} {B C : PN} {t u : TS}
theorem st_seq (h : Sat F ρ μ t (fun ρ1 μ1 => Sat F ρ1 μ1 u N R B C) R B C) : Sat F ρ μ (tSeq t u) N R B C := fun P μf hP σ H D c q1 q2 q3 q4 =>
  h P μf hP σ H { D with nx := u D } c (fun ρ1 μ1 σ1 H1 h1 c1 => h1 P μf hP σ1 H1 D c1 q1 q2 q3 q4) q2 q3 q4
theorem st_next (q : N ρ μ) : Sat F ρ μ tNext N R B C := fun P μf hP σ H D c q1 _ _ _ => q1 ρ μ σ H q c
theorem st_brk (q : B ρ μ) : Sat F ρ μ tBreak N R B C := fun P μf hP σ H D c _ _ q3 _ => q3 ρ μ σ H q c
theorem st_cont (q : C ρ μ) : Sat F ρ μ tCont N R B C := fun P μf hP σ H D c _ _ _ q4 => q4 ρ μ σ H q c
theorem st_asg {i : Nat} (h : EvM F ρ μ te fun s μ1 => N (ρ.set i (some s)) μ1) : Sat F ρ μ (tAsg te (gName i)) N R B C := fun P μf hP σ H D c q1 _ _ _ =>
  h P μf hP σ H _ c fun s μ1 v H1 h1 c1 => q1 _ μ1 _ H1 h1 (c1.le fun I z => ⟨z.1.1, Sl.set z.1.2 z.2⟩)
theorem st_asgG {g : TG} (h : EvM F ρ μ te fun s μ1 => Gt F ρ μ1 g s N) : Sat F ρ μ (tAsg te g) N R B C := fun P μf hP σ H D c q1 _ _ _ =>
  h P μf hP σ H _ c fun s μ1 v H1 h1 c1 => h1 P μf hP σ H1 v _ c1 q1
theorem st_drop (h : EvM F ρ μ te fun _ μ1 => N ρ μ1) : Sat F ρ μ (tDrop te) N R B C := fun P μf hP σ H D c q1 _ _ _ =>
  h P μf hP σ H _ c fun s μ1 v H1 h1 c1 => q1 _ μ1 _ H1 h1 (c1.le Up.and_l)
theorem st_ret (h : EvM F ρ μ te R) : Sat F ρ μ (tRet te) N R B C := fun P μf hP σ H D c _ q2 _ _ =>
  h P μf hP σ H _ c fun s μ1 v H1 h1 c1 => q2 s μ1 v H1 h1 (c1.le fun I z => ⟨z.1.1, z.2⟩)
theorem st_retN (h : R N0 μ) : Sat F ρ μ tRetN N R B C := fun P μf hP σ H D c _ q2 _ _ => q2 N0 μ .non H h (c.le fun I z => ⟨z.1, .non⟩)
theorem st_if (h : EvT F ρ μ tt fun b μ1 => (b = true → Sat F ρ μ1 t N R B C) ∧ (b = false → Sat F ρ μ1 u N R B C)) : Sat F ρ μ (tIfS tt t u) N R B C := fun P μf hP σ H D c q1 q2 q3 q4 =>
  h P μf hP σ H _ c fun b μ1 H1 h1 c1 => by
    cases b with
    | true => exact h1.1 rfl P μf hP σ H1 D c1 q1 q2 q3 q4
    | false => exact h1.2 rfl P μf hP σ H1 D c1 q1 q2 q3 q4
theorem st_while (Iv : Nat → PN) (m0 : Nat) (h0 : Iv m0 ρ μ)
    (hs : ∀ m ρ μ, Iv m ρ μ → EvT F ρ μ tt fun b μ1 => (b = true → Sat F ρ μ1 t (fun ρ' μ' => ∃ m', m' < m ∧ Iv m' ρ' μ') R N (fun ρ' μ' => ∃ m', m' < m ∧ Iv m' ρ' μ')) ∧ (b = false → N ρ μ1)) : Sat F ρ μ (tWhile tt t) N R B C := fun P μf hP σ H D c q1 q2 q3 q4 => by
  refine ⟨fun m σ H => ∃ ρ μ, Iv m ρ μ ∧ Cf (P.and (Sl σ ρ)) (μ ++ μf) H, ⟨m0, ρ, μ, h0, c⟩, fun m σ1 H1 ⟨ρ1, μ1, i1, c1⟩ => ?_⟩
  refine hs m ρ1 μ1 i1 P μf hP σ1 H1 _ c1 fun b μ2 H2 h2 c2 => ?_
  cases b with
  | false => exact q1 ρ1 μ2 σ1 H2 (h2.2 rfl) c2
  | true =>
    have again : ∀ {ρ' μ' σ' H'}, (∃ m', m' < m ∧ Iv m' ρ' μ') → Cf (P.and (Sl σ' ρ')) (μ' ++ μf) H' → ∃ m', m' < m ∧ ∃ ρ μ, Iv m' ρ μ ∧ Cf (P.and (Sl σ' ρ)) (μ ++ μf) H' := fun ⟨m', hm, i'⟩ c' => ⟨m', hm, _, _, i', c'⟩
    exact ⟨fun σ' H' => ∃ m', m' < m ∧ ∃ ρ μ, Iv m' ρ μ ∧ Cf (P.and (Sl σ' ρ)) (μ ++ μf) H', fun σ' H' z => z,
      h2.1 rfl P μf hP σ1 H2 _ c2 (fun ρ' μ' σ' H' => again) q2 (fun ρ' μ' σ' H' z c' => q1 ρ' μ' σ' H' z c') (fun ρ' μ' σ' H' => again)⟩
theorem st_par {i j : Nat} {ta : TA} (h : EvA F ρ μ ta fun ss μ1 => ∃ s s', ss = [s, s'] ∧ N ((ρ.set i (some s)).set j (some s')) μ1) : Sat F ρ μ (tPar i j ta) N R B C := fun P μf hP σ H D c q1 _ _ _ =>
  h P μf hP σ H _ c fun ss μ1 vs H1 h1 c1 => by
    obtain ⟨s, s', rfl, h1⟩ := h1
    obtain ⟨v, w, rfl⟩ : ∃ v w, vs = [v, w] := by
      have e := satL_len c1.at.2
      match vs, e with
      | [v, w], _ => exact ⟨v, w, rfl⟩
    refine ⟨v, w, rfl, q1 _ μ1 _ H1 h1 (c1.le fun I z => ⟨z.1.1, ?_⟩)⟩
    have z2 : ScL I [v, w] [s, s'] := z.2
    cases z2 with
    | cons z3 z4 =>
      cases z4 with
      | cons z5 _ => exact Sl.set (Sl.set z.1.2 z3) z5

/-! ### targets -/
variable {Ξ : PN}
theorem gt_name {i : Nat} {s : Sc} (q : Ξ (ρ.set i (some s)) μ) : Gt F ρ μ (gName i) s Ξ := fun P μf hP σ H v Q c k => k _ μ _ H q (c.le fun I z => ⟨z.1.1, Sl.set z.1.2 z.2⟩)
theorem gts_nil (q : Ξ ρ μ) : Gts F ρ μ gNil [] Ξ := fun P μf hP σ H vs Q c k => by
  have e := satL_len c.at.2
  match vs, e with
  | [], _ => exact ⟨rfl, k ρ μ σ H q (c.le Up.and_l)⟩
theorem gts_cons {g : TG} {gs : TGs} {s : Sc} {ss : List Sc} (h : Gt F ρ μ g s fun ρ1 μ1 => Gts F ρ1 μ1 gs ss Ξ) : Gts F ρ μ (gCons g gs) (s :: ss) Ξ := fun P μf hP σ H vs Q c k => by
  have e := satL_len c.at.2
  match vs, e with
  | v :: vs, _ =>
    refine ⟨v, vs, rfl, h (P.and (satL ss vs)) μf (le_l hP) σ H v _ (c.le fun I z => ?_) fun ρ1 μ1 σ1 H1 h1 c1 => h1 P μf hP σ1 H1 vs Q (c1.le fun I z => ⟨⟨z.1.1, z.2⟩, z.1.2⟩) k⟩
    have z2 : ScL I (v :: vs) (s :: ss) := z.2
    cases z2 with
    | cons z3 z4 => exact ⟨⟨⟨z.1.1, z4⟩, z.1.2⟩, z3⟩
theorem gt_tup {K : PySem.W.Frag} {n : Nat} {gs : TGs} {ds : List PyData} (hn : ds.length = n) (h : Gts F ρ μ gs (ds.map Sc.d) Ξ) : Gt F ρ μ (gTup K n gs) (.d (.tuple ds)) Ξ := fun P μf hP σ H v Q c k => by
  obtain ⟨I, c⟩ := c
  obtain ⟨a, xs, rfl, h1, h2⟩ := dq_tup c.up.2
  refine ⟨a, xs, rfl, SqT.of (c.ex _ _ h1), h2.length.trans hn, h P μf hP σ H xs Q ⟨I, c.ex, ⟨c.up.1, satL_of_data h2⟩, c.nd, c.mu⟩ k⟩

/-! ### loops -/
theorem st_for {wi : TI} {g : TG} (h : EvI F ρ μ wi fun ds μ1 => ∃ Iv : Nat → PN, Iv 0 ρ μ1 ∧ (∀ i s ρ' μ', ds[i]? = some s → Iv i ρ' μ' → Gt F ρ' μ' g s fun ρ2 μ2 => Sat F ρ2 μ2 t (Iv (i + 1)) R N (Iv (i + 1))) ∧ ∀ ρ' μ', Iv ds.length ρ' μ' → N ρ' μ') :
    Sat F ρ μ (tFor wi g t) N R B C := fun P μf hP σ H D c q1 q2 q3 q4 => by
  refine h P μf hP σ H _ c fun ds μ1 H1 J P2 h1 hP2 c1 hJ => ?_
  obtain ⟨Iv, i0, hs, hd⟩ := h1
  refine ⟨fun i m σ H => m = ds.length - i ∧ i ≤ ds.length ∧ ∃ ρ μ, Iv i ρ μ ∧ Cf (P2.and (Sl σ ρ)) (μ ++ μf) H, ⟨_, rfl, Nat.zero_le _, ρ, μ1, i0, c1⟩, ?_⟩
  rintro i m σ2 H2 ⟨rfl, hi, ρ2, μ2, i2, c2⟩
  have jw := hJ (P2.and (Sl σ2 ρ2)) Up.and_l (μ2 ++ μf) H2 c2 i
  cases e : ds[i]? with
  | none =>
    have hi' : i = ds.length := by have := List.getElem?_eq_none_iff.mp e; omega
    subst hi'
    exact .inl ⟨jw.2 e, q1 ρ2 μ2 σ2 H2 (hd ρ2 μ2 i2) (c2.le fun I z => ⟨hP2 I z.1, z.2⟩)⟩
  | some s =>
    have hlt : i < ds.length := (List.getElem?_eq_some_iff.mp e).1
    obtain ⟨go, yl⟩ := jw.1 s e
    refine .inr ⟨go, fun σ' H' => ∃ ρ μ, Iv (i + 1) ρ μ ∧ Cf (P2.and (Sl σ' ρ)) (μ ++ μf) H', fun σ' H' z => ⟨ds.length - (i + 1), by omega, rfl, hlt, z⟩, fun x H' y => ?_⟩
    refine hs i s ρ2 μ2 e i2 P2 μf (le_t hP2 hP) σ2 H' x _ (yl x H' y) fun ρ3 μ3 σ3 H3 h3 c3 => ?_
    exact h3 P2 μf (le_t hP2 hP) σ3 H3 _ c3 (fun ρ' μ' σ' H' z c' => ⟨ρ', μ', z, c'⟩) (fun s μ' v H' z c' => q2 s μ' v H' z (c'.le fun I z => ⟨hP2 I z.1, z.2⟩))
      (fun ρ' μ' σ' H' z c' => q1 ρ' μ' σ' H' z (c'.le fun I z => ⟨hP2 I z.1, z.2⟩)) (fun ρ' μ' σ' H' z c' => ⟨ρ', μ', z, c'⟩)
/-- what a loop walks -/
theorem ei_list {K : PySem.W.Frag} {tl : TE} {Υ : List Sc → Mu → Prop} (h : EvM F ρ μ tl fun s μ1 => ∃ ds, s = .d (.list ds) ∧ Υ (ds.map Sc.d) μ1) : EvI F ρ μ (iList K tl) Υ := fun P μf hP σ H Rr c k =>
  h P μf hP σ H _ c fun s μ1 v H1 h1 c1 => by
    obtain ⟨ds, rfl, h1⟩ := h1
    obtain ⟨a, xs, rfl, e1, e2⟩ := dq_lst c1.at.2
    refine ⟨a, rfl, ⟨xs, SqL.of e1⟩, k (ds.map Sc.d) μ1 H1 (Itl K a) (P.and (sat (.d (.list ds)) (.ref a))) h1 Up.and_l (c1.le fun I z => ⟨⟨z.1.1, z.2⟩, z.1.2⟩) fun P' hP' μ' H' c' i => ?_⟩
    obtain ⟨I, c'⟩ := c'
    obtain ⟨a', ys, ea, f1, f2⟩ := dq_lst (hP' I c'.up).2
    cases ea
    have f3 := c'.ex _ _ f1
    refine ⟨fun s hs => ?_, fun hn => ⟨ys, SqL.of f3, ?_⟩⟩
    · rw [List.getElem?_map] at hs
      cases hd : ds[i]? with
      | none => rw [hd] at hs; cases hs
      | some d =>
        rw [hd] at hs
        have es : Sc.d d = s := Option.some.inj hs
        subst es
        obtain ⟨x, hx, hq⟩ := f2.get' hd
        refine ⟨⟨ys, x, SqL.of f3, hx⟩, fun x' H'' y => ?_⟩
        obtain ⟨rfl, y⟩ := y
        have ex : x = x' := Option.some.inj (hx.symm.trans (y ys (SqL.of f3)))
        subst ex
        exact ⟨I, c'.ex, ⟨c'.up, hq⟩, c'.nd, c'.mu⟩
    · rw [List.getElem?_map] at hn
      have := f2.length
      cases hd : ds[i]? with
      | none => have := List.getElem?_eq_none_iff.mp hd; omega
      | some d => rw [hd] at hn; cases hn
theorem ei_tup {K : PySem.W.Frag} {tl : TE} {Υ : List Sc → Mu → Prop} (h : EvM F ρ μ tl fun s μ1 => ∃ ds, s = .d (.tuple ds) ∧ Υ (ds.map Sc.d) μ1) : EvI F ρ μ (iTup K tl) Υ := fun P μf hP σ H Rr c k =>
  h P μf hP σ H _ c fun s μ1 v H1 h1 c1 => by
    obtain ⟨ds, rfl, h1⟩ := h1
    obtain ⟨a, xs, rfl, e1, e2⟩ := dq_tup c1.at.2
    refine ⟨a, rfl, ⟨xs, SqT.of e1⟩, k (ds.map Sc.d) μ1 H1 (Itt K a) (P.and (sat (.d (.tuple ds)) (.ref a))) h1 Up.and_l (c1.le fun I z => ⟨⟨z.1.1, z.2⟩, z.1.2⟩) fun P' hP' μ' H' c' i => ?_⟩
    obtain ⟨I, c'⟩ := c'
    obtain ⟨a', ys, ea, f1, f2⟩ := dq_tup (hP' I c'.up).2
    cases ea
    have f3 := c'.ex _ _ f1
    refine ⟨fun s hs => ?_, fun hn => ⟨ys, SqT.of f3, ?_⟩⟩
    · rw [List.getElem?_map] at hs
      cases hd : ds[i]? with
      | none => rw [hd] at hs; cases hs
      | some d =>
        rw [hd] at hs
        have es : Sc.d d = s := Option.some.inj hs
        subst es
        obtain ⟨x, hx, hq⟩ := f2.get' hd
        refine ⟨⟨ys, x, SqT.of f3, hx⟩, fun x' H'' y => ?_⟩
        obtain ⟨rfl, y⟩ := y
        have ex : x = x' := Option.some.inj (hx.symm.trans (y ys (SqT.of f3)))
        subst ex
        exact ⟨I, c'.ex, ⟨c'.up, hq⟩, c'.nd, c'.mu⟩
    · rw [List.getElem?_map] at hn
      have := f2.length
      cases hd : ds[i]? with
      | none => have := List.getElem?_eq_none_iff.mp hd; omega
      | some d => rw [hd] at hn; cases hn
theorem ei_str {te : TE} {Υ : List Sc → Mu → Prop} (h : EvM F ρ μ te fun s μ1 => ∃ l, s = T l ∧ Υ (l.map fun c => T [c]) μ1) : EvI F ρ μ (iStr te) Υ := fun P μf hP σ H Rr c k =>
  h P μf hP σ H _ c fun s μ1 v H1 h1 c1 => by
    obtain ⟨l, rfl, h1⟩ := h1
    refine ⟨_, dq_str c1.at.2, k _ μ1 H1 (Its (Tx l)) P h1 (Up.le.refl P) (c1.le Up.and_l) fun P' hP' μ' H' c' i => ⟨fun s hs => ?_, fun hn => ?_⟩⟩
    · rw [List.getElem?_map] at hs
      cases hd : l[i]? with
      | none => rw [hd] at hs; cases hs
      | some d =>
        rw [hd] at hs
        have es : T [d] = s := Option.some.inj hs
        subst es
        have hlt : i < l.length := (List.getElem?_eq_some_iff.mp hd).1
        refine ⟨by show i < (Tx l).cps.size; simpa [Tx] using hlt, fun x' H'' y => ?_⟩
        obtain ⟨rfl, ch, y1, rfl⟩ := y
        have e2 : ch = d := by
          have y2 : l.toArray[i]? = some ch := y1
          rw [List.getElem?_toArray, hd] at y2
          exact (Option.some.inj y2).symm
        subst e2
        exact cf_add c' fun _ _ => .str _
    · rw [List.getElem?_map] at hn
      cases hd : l[i]? with
      | none =>
        have := List.getElem?_eq_none_iff.mp hd
        show (Tx l).cps.size ≤ i
        simpa [Tx] using this
      | some d => rw [hd] at hn; cases hn
theorem jw_rng (P : Up) (lo : Int) (n : Nat) : JW P (Itr lo n) ((List.range n).map fun (i : Nat) => I (lo + (i : Int))) := fun P' hP' μ' H' c' i => by
  refine ⟨fun s hs => ?_, fun hn => ?_⟩
  · rw [List.getElem?_map] at hs
    by_cases hi : i < n
    · rw [List.getElem?_range hi] at hs
      have es : I (lo + (i : Int)) = s := Option.some.inj hs
      subst es
      refine ⟨hi, fun x' H'' y => ?_⟩
      obtain ⟨rfl, rfl⟩ := y
      exact cf_add c' fun _ _ => .int _
    · rw [List.getElem?_eq_none (by rw [List.length_range]; omega)] at hs; cases hs
  · rw [List.getElem?_map] at hn
    by_cases hi : i < n
    · rw [List.getElem?_range hi] at hn; cases hn
    · exact Nat.le_of_not_lt hi
theorem ei_rng1 {ta : TA} {Υ : List Sc → Mu → Prop} (h : EvA F ρ μ ta fun ss μ1 => ∃ n : Int, ss = [I n] ∧ -(2 ^ 62) ≤ n ∧ n < 2 ^ 62 ∧ Υ ((List.range n.toNat).map fun (i : Nat) => I (0 + (i : Int))) μ1) : EvI F ρ μ (iRng1 ta) Υ := fun P μf hP σ H Rr c k =>
  h P μf hP σ H _ c fun ss μ1 vs H1 h1 c1 => by
    obtain ⟨n, rfl, hl, hu, h1⟩ := h1
    have z : ScL H1 vs [I n] := c1.at.2
    cases z with
    | cons z1 z2 =>
      cases z2
      refine ⟨n, by rw [dq_int z1], hl, hu, k _ μ1 H1 _ P h1 (Up.le.refl P) (c1.le Up.and_l) (jw_rng P 0 n.toNat)⟩
theorem ei_rng2 {ta : TA} {Υ : List Sc → Mu → Prop} (h : EvA F ρ μ ta fun ss μ1 => ∃ a n : Int, ss = [I a, I n] ∧ (-(2 ^ 62) ≤ a ∧ a < 2 ^ 62 ∧ -(2 ^ 62) ≤ n ∧ n < 2 ^ 62) ∧ Υ ((List.range (n - a).toNat).map fun (i : Nat) => I (a + (i : Int))) μ1) : EvI F ρ μ (iRng2 ta) Υ := fun P μf hP σ H Rr c k =>
  h P μf hP σ H _ c fun ss μ1 vs H1 h1 c1 => by
    obtain ⟨a, n, rfl, hl, h1⟩ := h1
    have z : ScL H1 vs [I a, I n] := c1.at.2
    cases z with
    | cons z1 z2 =>
      cases z2 with
      | cons z2 z3 =>
        cases z3
        refine ⟨a, n, by rw [dq_int z1, dq_int z2], hl, k _ μ1 H1 _ P h1 (Up.le.refl P) (c1.le Up.and_l) (jw_rng P a (n - a).toNat)⟩
end
end TK

namespace TK
open PySem PySem.Spec PyProof.Rows L2

theorem cf_set {P : Up} {μ μf : Mu} {H : Hp} {a : Addr} {k : Nat} {m m' : MO} {o : HO} (c : Cf P (μ ++ μf) H) (hk : μ[k]? = some (a, m)) (hm : ∀ I, Ex I H → P.p I → m.p I H a → m'.p I (upd H a o) a) : Cf P (μ.set k (a, m') ++ μf) (upd H a o) := by
  rw [← set_left hk]
  exact c.set (ix_left hk) hm
theorem scL1 {I : Hp} {xs : List V} {s : Sc} (h : ScL I xs [s]) : ∃ x, xs = [x] ∧ s.p I x := by
  cases h with
  | cons h1 h2 => cases h2; exact ⟨_, rfl, h1⟩
theorem scL2 {I : Hp} {xs : List V} {s t : Sc} (h : ScL I xs [s, t]) : ∃ x y, xs = [x, y] ∧ s.p I x ∧ t.p I y := by
  cases h with
  | cons h1 h2 =>
    obtain ⟨y, rfl, h3⟩ := scL1 h2
    exact ⟨_, _, rfl, h1, h3⟩
theorem scL0 {I : Hp} {xs : List V} (h : ScL I xs []) : xs = [] := by cases h; rfl
theorem ScL.length {I : Hp} {xs : List V} {ss : List Sc} (h : ScL I xs ss) : xs.length = ss.length := Paired.length h
theorem ScL.get : ∀ {I : Hp} {xs : List V} {ss : List Sc} {i : Nat} {x : V}, ScL I xs ss → xs[i]? = some x → ∃ s, ss[i]? = some s ∧ s.p I x
  | _, _, _, _, _, .nil, e => by simp at e
  | _, _, _, 0, _, .cons r _, e => by
    have e' := Option.some.inj e
    subst e'
    exact ⟨_, rfl, r⟩
  | _, _, _, i + 1, x, .cons _ t, e => ScL.get (i := i) (x := x) t e
theorem ScL.get' : ∀ {I : Hp} {xs : List V} {ss : List Sc} {i : Nat} {s : Sc}, ScL I xs ss → ss[i]? = some s → ∃ x, xs[i]? = some x ∧ s.p I x
  | _, _, _, _, _, .nil, e => by simp at e
  | _, _, _, 0, _, .cons r _, e => by
    have e' := Option.some.inj e
    subst e'
    exact ⟨_, rfl, r⟩
  | _, _, _, i + 1, s, .cons _ t, e => ScL.get' (i := i) (s := s) t e
theorem ScL.append : ∀ {I : Hp} {xs ys : List V} {ss ts : List Sc}, ScL I xs ss → ScL I ys ts → ScL I (xs ++ ys) (ss ++ ts)
  | _, _, _, _, _, .nil, s => s
  | _, _, _, _, _, .cons r t, s => .cons r (ScL.append t s)
theorem ScL.set : ∀ {I : Hp} {xs : List V} {ss : List Sc} {x : V} {s : Sc} (i : Nat), s.p I x → ScL I xs ss → ScL I (xs.set i x) (ss.set i s)
  | _, _, _, _, _, _, _, .nil => .nil
  | _, _, _, _, _, 0, h, .cons _ t => .cons h t
  | _, _, _, _, _, i + 1, h, .cons q t => .cons q (ScL.set i h t)
theorem ScL.dropLast : ∀ {I : Hp} {xs : List V} {ss : List Sc}, ScL I xs ss → ScL I xs.dropLast ss.dropLast
  | _, _, _, .nil => .nil
  | _, _, _, .cons _ .nil => .nil
  | _, _, _, .cons h (.cons h2 t) => .cons h (ScL.dropLast (.cons h2 t))

section
variable {F : Fr} {μ : Mu} {Φ : Sc → Mu → Prop}
/-- a scalar answer -/
theorem cf_ans {P : Up} {G : Up} {H : Hp} (c : Cf (P.and G) μ H) {F : Up} (h : ∀ I, P.p I → G.p I → F.p I) : Cf (P.and F) μ H := c.le fun I z => ⟨z.1, h I z.1 z.2⟩

/-! ### whole numbers -/
theorem ro_I {g : Int → Int → Int} {i j : Int} (q : Φ (I (g i j)) μ) : RO F μ (rI0 fun i j => .int (g i j)) (I i) (I j) Φ := fun P μf hP H x y Q c k =>
  ⟨i, j, dq_int c.at.1.2, dq_int c.at.2, k _ μ _ H q ((c.le Up.and_l).le fun I z => ⟨z.1, .int _⟩)⟩
theorem ro_IC {C : Int → Int → Prop} {g : Int → Int → Int} {i j : Int} (hc : C i j) (q : Φ (I (g i j)) μ) : RO F μ (rI C fun i j => .int (g i j)) (I i) (I j) Φ := fun P μf hP H x y Q c k =>
  ⟨i, j, dq_int c.at.1.2, dq_int c.at.2, hc, k _ μ _ H q ((c.le Up.and_l).le fun I z => ⟨z.1, .int _⟩)⟩
theorem ro_IB {g : Int → Int → Bool} {i j : Int} (q : Φ (B (g i j)) μ) : RO F μ (rI0 fun i j => .bl (g i j)) (I i) (I j) Φ := fun P μf hP H x y Q c k =>
  ⟨i, j, dq_int c.at.1.2, dq_int c.at.2, k _ μ _ H q ((c.le Up.and_l).le fun I z => ⟨z.1, .bl _⟩)⟩
theorem ru_I {g : Int → Int} {i : Int} (q : Φ (I (g i)) μ) : RU F μ (rU fun i => .int (g i)) (I i) Φ := fun P μf hP H x Q c k =>
  ⟨i, dq_int c.at.2, k _ μ _ H q (cf_ans c fun _ _ _ => .int _)⟩
/-! ### == -/
def scalD : PyData → Option V
  | .none => some .non
  | .bool b => some (.bl b)
  | .int i => some (.int i)
  | .str x => some (.str x)
  | _ => none
theorem scalD_ok {H : Hp} {v x : V} {d : PyData} (e : scalD d = some x) (h : Dq H v d) : v = x := by
  cases d with
  | none => rw [dq_non h]; exact Option.some.inj e
  | bool b => rw [dq_bl h]; exact Option.some.inj e
  | int i => rw [dq_int h]; exact Option.some.inj e
  | str y => rw [dq_str h]; exact Option.some.inj e
  | _ => cases e
theorem ro_eq {a b : PyData} {x y : V} (ha : scalD a = some x) (hb : scalD b = some y) (hs : scal x y = true) (q : Φ (B (decide (x = y))) μ) : RO F μ rEq (.d a) (.d b) Φ := fun P μf hP H u v Q c k => by
  obtain rfl := scalD_ok ha c.at.1.2
  obtain rfl := scalD_ok hb c.at.2
  exact ⟨hs, k _ μ _ H q ((c.le Up.and_l).le fun I z => ⟨z.1, .bl _⟩)⟩
theorem ro_ne {a b : PyData} {x y : V} (ha : scalD a = some x) (hb : scalD b = some y) (hs : scal x y = true) (q : Φ (B (!decide (x = y))) μ) : RO F μ rNe (.d a) (.d b) Φ := fun P μf hP H u v Q c k => by
  obtain rfl := scalD_ok ha c.at.1.2
  obtain rfl := scalD_ok hb c.at.2
  exact ⟨hs, k _ μ _ H q ((c.le Up.and_l).le fun I z => ⟨z.1, .bl _⟩)⟩
theorem ro_eqI {i j : Int} (q : Φ (B (decide (i = j))) μ) : RO F μ rEq (I i) (I j) Φ := ro_eq rfl rfl rfl (by rw [show decide (V.int i = V.int j) = decide (i = j) from decide_eq_decide.mpr ⟨fun h => by cases h; rfl, fun h => by rw [h]⟩]; exact q)
theorem ro_neI {i j : Int} (q : Φ (B (!decide (i = j))) μ) : RO F μ rNe (I i) (I j) Φ := ro_ne rfl rfl rfl (by rw [show decide (V.int i = V.int j) = decide (i = j) from decide_eq_decide.mpr ⟨fun h => by cases h; rfl, fun h => by rw [h]⟩]; exact q)
theorem decT {a b : List Nat} : decide (V.str (Tx a) = V.str (Tx b)) = decide (a = b) := decide_eq_decide.mpr ⟨fun h => tx_inj (V.str.inj h), fun h => by rw [h]⟩
theorem ro_eqT {a b : List Nat} (q : Φ (B (decide (a = b))) μ) : RO F μ rEq (T a) (T b) Φ := ro_eq rfl rfl rfl (by rw [show decide (V.str (Tx a) = V.str (Tx b)) = decide (a = b) from decT]; exact q)
theorem ro_neT {a b : List Nat} (q : Φ (B (!decide (a = b))) μ) : RO F μ rNe (T a) (T b) Φ := ro_ne rfl rfl rfl (by rw [show decide (V.str (Tx a) = V.str (Tx b)) = decide (a = b) from decT]; exact q)
theorem ro_eqB {a b : Bool} (q : Φ (B (a == b)) μ) : RO F μ rEq (B a) (B b) Φ := ro_eq rfl rfl rfl (by cases a <;> cases b <;> exact q)
theorem ro_neB {a b : Bool} (q : Φ (B (a != b)) μ) : RO F μ rNe (B a) (B b) Φ := ro_ne rfl rfl rfl (by cases a <;> cases b <;> exact q)
theorem ro_eqD {K : PySem.W.Frag} {a b : PyData} (ha : SeqAt.shaped a = true) (hb : SeqAt.shaped b = true) (q : Φ (B (PyData.eqv a b)) μ) : RO F μ (rEqD K) (.d a) (.d b) Φ := fun P μf hP H u v Q c k =>
  ⟨a, b, dq_dp _ _ c.at.1.2, dq_dp _ _ c.at.2, ha, hb, k _ μ _ H q ((c.le Up.and_l).le fun I z => ⟨z.1, .bl _⟩)⟩
theorem ro_neD {K : PySem.W.Frag} {a b : PyData} (ha : SeqAt.shaped a = true) (hb : SeqAt.shaped b = true) (q : Φ (B (!PyData.eqv a b)) μ) : RO F μ (rNeD K) (.d a) (.d b) Φ := fun P μf hP H u v Q c k =>
  ⟨a, b, dq_dp _ _ c.at.1.2, dq_dp _ _ c.at.2, ha, hb, k _ μ _ H q ((c.le Up.and_l).le fun I z => ⟨z.1, .bl _⟩)⟩
/-- x is None -/
def isNone : Sc → Option Bool
  | .d .none => some true
  | .d _ => some false
  | .v x => some (decide (x = .non))
  | _ => none
theorem isNone_ok {s : Sc} {b : Bool} {H : Hp} {x : V} (h : isNone s = some b) (c : s.p H x) : decide (x = V.non) = b := by
  cases s with
  | u U => cases h
  | v y =>
    have e : x = y := c
    subst e
    exact Option.some.inj h
  | d d =>
    cases d with
    | none => rw [dq_non c]; exact Option.some.inj h
    | bool y => rw [dq_bl c]; exact Option.some.inj h
    | int y => rw [dq_int c]; exact Option.some.inj h
    | str y => rw [dq_str c]; exact Option.some.inj h
    | list y => obtain ⟨a, xs, rfl, _⟩ := dq_lst c; exact Option.some.inj h
    | tuple y => obtain ⟨a, xs, rfl, _⟩ := dq_tup c; exact Option.some.inj h
    | dict y => cases c
theorem ro_isN {s : Sc} {b : Bool} (h : isNone s = some b) (q : Φ (B b) μ) : RO F μ (fun x y H Q => y = .non ∧ Q (.bl (decide (x = .non))) H) s N0 Φ := fun P μf hP H x y Q c k => by
  refine ⟨dq_non c.at.2, ?_⟩
  rw [isNone_ok h c.at.1.2]
  exact k _ μ _ H q ((c.le Up.and_l).le fun I z => ⟨z.1, .bl _⟩)
theorem ro_notN {s : Sc} {b : Bool} (h : isNone s = some b) (q : Φ (B (!b)) μ) : RO F μ (fun x y H Q => y = .non ∧ Q (.bl (!decide (x = .non))) H) s N0 Φ := fun P μf hP H x y Q c k => by
  refine ⟨dq_non c.at.2, ?_⟩
  rw [isNone_ok h c.at.1.2]
  exact k _ μ _ H q ((c.le Up.and_l).le fun I z => ⟨z.1, .bl _⟩)
theorem ro_isB {a b : Bool} (q : Φ (B (decide (a = b))) μ) : RO F μ (fun x y H Q => ∃ a b, x = .bl a ∧ y = .bl b ∧ Q (.bl (decide (a = b))) H) (B a) (B b) Φ := fun P μf hP H x y Q c k =>
  ⟨a, b, dq_bl c.at.1.2, dq_bl c.at.2, k _ μ _ H q ((c.le Up.and_l).le fun I z => ⟨z.1, .bl _⟩)⟩

/-! ### texts -/
theorem tx_app (a b : List Nat) : Tx a ++ Tx b = Tx (a ++ b) := by
  show (⟨a.toArray ++ b.toArray⟩ : Str) = _
  simp [Tx]
theorem ro_catT {a b : List Nat} (h : a.length + b.length ≤ 16777216) (q : Φ (T (a ++ b)) μ) : RO F μ (fun x y H Q => ∃ i j, x = .str i ∧ y = .str j ∧ i.length + j.length ≤ sizeLine ∧ Q (.str (i ++ j)) H) (T a) (T b) Φ := fun P μf hP H x y Q c k => by
  refine ⟨Tx a, Tx b, dq_str c.at.1.2, dq_str c.at.2, by rw [tx_len, tx_len]; exact sz_of h, ?_⟩
  rw [tx_app]
  exact k _ μ _ H q ((c.le Up.and_l).le fun I z => ⟨z.1, .str _⟩)
theorem ro_ixS {l : List Nat} {i : Int} {ch : Nat} (h : l.length ≤ 16777216) (hi : atI l i = some ch) (q : Φ (T [ch]) μ) : RO F μ rIxS (T l) (I i) Φ := fun P μf hP H x y Q c k =>
  ⟨Tx l, i, ch, dq_str c.at.1.2, dq_int c.at.2, by rw [tx_len]; exact sz_of h, by simpa [Tx] using hi, k _ μ _ H q ((c.le Up.and_l).le fun I z => ⟨z.1, .str _⟩)⟩
def cut {α : Type} (l : List α) (lo hi : Option Int) : List α := (l.drop (HT.sIx l.length 0 lo)).take (HT.sIx l.length l.length hi - HT.sIx l.length 0 lo)
theorem rs_str {l : List Nat} {lo hi : Option Int} (h : l.length ≤ 16777216) (q : Φ (T (cut l lo hi)) μ) : RS F μ rSlS (T l) lo hi Φ := fun P μf hP H x Q c k => by
  refine ⟨Tx l, dq_str c.at.2, by rw [tx_len]; exact sz_of h, ?_⟩
  have e : cutS (Tx l) lo hi = Tx (cut l lo hi) := by unfold cutS cut; rw [tx_len]
  rw [e]
  exact k _ μ _ H q ((c.le Up.and_l).le fun I z => ⟨z, .str _⟩)
theorem rs_lst {K : PySem.W.Frag} {ds : List PyData} {lo hi : Option Int} (q : Φ (.d (.list (cut ds lo hi))) μ) : RS F μ (rSlL K) (.d (.list ds)) lo hi Φ := fun P μf hP H x Q c k => by
  obtain ⟨a, xs, rfl, h1, h2⟩ := dq_lst c.at.2
  refine ⟨a, xs, rfl, SqL.of h1, fun p hp => k _ μ _ _ q ?_⟩
  refine (c.new (F := sat (.d (.list (cut ds lo hi))) (.ref p)) hp fun I e z => ?_).le fun I z => ⟨z.1.1, z.2⟩
  obtain ⟨a', xs', e1, h3, h4⟩ := dq_lst z.2
  cases e1
  have e2 : xs' = xs := by have := e _ _ h3; rw [h1] at this; cases this; rfl
  subst e2
  have hl := h4.length
  refine .lst upd_same (dqAll_mono (Ex.new (e.back hp)) _ _ ?_)
  unfold cutV cut
  rw [← hl]
  exact (h4.drop _).take _
theorem ro_inS {l : List Nat} {ch : Nat} (q : Φ (B (decide (ch ∈ l))) μ) : RO F μ (fun x y H Q => ∃ (c : Nat) (z : Str), x = .str ⟨#[c]⟩ ∧ y = .str z ∧ Q (.bl (decide (c ∈ z.cps.toList))) H) (T [ch]) (T l) Φ := fun P μf hP H x y Q c k => by
  refine ⟨ch, Tx l, dq_str c.at.1.2, dq_str c.at.2, ?_⟩
  rw [show (Tx l).cps.toList = l from rfl]
  exact k _ μ _ H q ((c.le Up.and_l).le fun I z => ⟨z.1, .bl _⟩)
theorem ro_notInS {l : List Nat} {ch : Nat} (q : Φ (B (!decide (ch ∈ l))) μ) : RO F μ (fun x y H Q => ∃ (c : Nat) (z : Str), x = .str ⟨#[c]⟩ ∧ y = .str z ∧ Q (.bl (!decide (c ∈ z.cps.toList))) H) (T [ch]) (T l) Φ := fun P μf hP H x y Q c k => by
  refine ⟨ch, Tx l, dq_str c.at.1.2, dq_str c.at.2, ?_⟩
  rw [show (Tx l).cps.toList = l from rfl]
  exact k _ μ _ H q ((c.le Up.and_l).le fun I z => ⟨z.1, .bl _⟩)
/-- the first place of sub in s -/
def atB (s sub : List Nat) (i : Nat) : Bool := (s.drop i).take sub.length == sub && decide (i + sub.length ≤ s.length)
def fstAt (s sub : List Nat) : Option Nat := (List.range (s.length + 1)).find? (atB s sub)
theorem at_atB {s sub : List Nat} {i : Nat} : StrLaws.At (Tx s) (Tx sub) (Tx s).length i ↔ atB s sub i = true := by
  unfold StrLaws.At atB Builtin.Str.subAt
  rw [tx_len, tx_len, Bool.and_eq_true, decide_eq_true_eq, beq_iff_eq, beq_iff_eq]
  constructor
  · rintro ⟨h1, h2⟩
    refine ⟨?_, h1⟩
    have h3 := congrArg Array.toList h2
    simpa [Tx, List.extract_eq_take_drop] using h3
  · rintro ⟨h1, h2⟩
    refine ⟨h2, ?_⟩
    apply Array.toList_inj.mp
    simpa [Tx, List.extract_eq_take_drop] using h1
theorem occ_fst (s sub : List Nat) : Builtin.Str.occurrences (Tx s) (Tx sub) 0 (Tx s).length 1 = [] ∧ fstAt s sub = none ∨ ∃ i r, Builtin.Str.occurrences (Tx s) (Tx sub) 0 (Tx s).length 1 = i :: r ∧ fstAt s sub = some i := by
  rcases StrLaws.occ_head (Tx s) (Tx sub) 1 (Nat.le_refl 1) with ⟨h1, h2⟩ | ⟨i, r, h1, h2, h3⟩
  · refine .inl ⟨h1, ?_⟩
    unfold fstAt
    rw [List.find?_eq_none]
    intro i _ hi
    exact h2 i (at_atB.mpr hi)
  · refine .inr ⟨i, r, h1, ?_⟩
    have hi := at_atB.mp h2
    have hlt : i < s.length + 1 := by
      have := h2.1
      rw [tx_len, tx_len] at this
      omega
    unfold fstAt
    rw [List.find?_range_eq_some]
    exact ⟨hi, by simpa using hlt, fun j hj => by
      have := h3 j hj
      cases e : atB s sub j with
      | false => rfl
      | true => exact absurd (at_atB.mpr e) this⟩
theorem ro_inT {s sub : List Nat} (q : Φ (B (fstAt s sub).isSome) μ) : RO F μ (fun x y H Q => ∃ i j, x = .str i ∧ y = .str j ∧ Q (.bl (!(Builtin.Str.occurrences j i 0 j.length 1).isEmpty)) H) (T sub) (T s) Φ := fun P μf hP H x y Q c k => by
  refine ⟨Tx sub, Tx s, dq_str c.at.1.2, dq_str c.at.2, ?_⟩
  have e : (!(Builtin.Str.occurrences (Tx s) (Tx sub) 0 (Tx s).length 1).isEmpty) = (fstAt s sub).isSome := by
    rcases occ_fst s sub with ⟨h1, h2⟩ | ⟨i, r, h1, h2⟩ <;> rw [h1, h2] <;> rfl
  rw [e]
  exact k _ μ _ H q ((c.le Up.and_l).le fun I z => ⟨z.1, .bl _⟩)
theorem ro_notInT {s sub : List Nat} (q : Φ (B (!(fstAt s sub).isSome)) μ) : RO F μ (fun x y H Q => ∃ i j, x = .str i ∧ y = .str j ∧ Q (.bl (!(!(Builtin.Str.occurrences j i 0 j.length 1).isEmpty))) H) (T sub) (T s) Φ := fun P μf hP H x y Q c k => by
  refine ⟨Tx sub, Tx s, dq_str c.at.1.2, dq_str c.at.2, ?_⟩
  have e : (!(Builtin.Str.occurrences (Tx s) (Tx sub) 0 (Tx s).length 1).isEmpty) = (fstAt s sub).isSome := by
    rcases occ_fst s sub with ⟨h1, h2⟩ | ⟨i, r, h1, h2⟩ <;> rw [h1, h2] <;> rfl
  rw [e]
  exact k _ μ _ H q ((c.le Up.and_l).le fun I z => ⟨z.1, .bl _⟩)
theorem rm_find {s sub : List Nat} (q : Φ (I (match fstAt s sub with | some i => (i : Int) | none => -1)) μ) : RM F μ (fun x xs H Q => ∃ a b, x = .str a ∧ xs = [.str b] ∧ Q (.int (Txt.find a b)) H) (T s) [T sub] Φ := fun P μf hP H x xs Q c k => by
  obtain ⟨y, rfl, hy⟩ := scL1 c.at.2
  refine ⟨Tx s, Tx sub, dq_str c.at.1.2, by rw [dq_str hy], ?_⟩
  have e : Txt.find (Tx s) (Tx sub) = (match fstAt s sub with | some i => (i : Int) | none => -1) := by
    unfold Txt.find
    rcases occ_fst s sub with ⟨h1, h2⟩ | ⟨i, r, h1, h2⟩ <;> rw [h1, h2] <;> rfl
  rw [e]
  exact k _ μ _ H q ((c.le Up.and_l).le fun I z => ⟨z.1, .int _⟩)
theorem rm_index {s sub : List Nat} {i : Nat} (hi : fstAt s sub = some i) (q : Φ (I (i : Int)) μ) : RM F μ (fun x xs H Q => ∃ a b i rest, x = .str a ∧ xs = [.str b] ∧ Builtin.Str.occurrences a b 0 a.length 1 = i :: rest ∧ Q (.int (i : Nat)) H) (T s) [T sub] Φ := fun P μf hP H x xs Q c k => by
  obtain ⟨y, rfl, hy⟩ := scL1 c.at.2
  rcases occ_fst s sub with ⟨h1, h2⟩ | ⟨j, r, h1, h2⟩
  · rw [hi] at h2; cases h2
  · rw [hi] at h2; cases h2
    exact ⟨Tx s, Tx sub, i, r, dq_str c.at.1.2, by rw [dq_str hy], h1, k _ μ _ H q ((c.le Up.and_l).le fun I z => ⟨z.1, .int _⟩)⟩

/-! ### items -/
theorem atI_map {α β : Type} (f : α → β) (l : List α) (i : Int) : atI (l.map f) i = (atI l i).map f := by
  unfold atI
  rw [List.length_map]
  cases ixN l.length i with
  | none => rfl
  | some j => show (l.map f)[j]? = (l[j]?).map f; rw [List.getElem?_map]
theorem dqAll_at {H : Hp} {xs : List V} {ds : List PyData} {i : Int} {d : PyData} (h : DqAll H xs ds) (hi : atI ds i = some d) : ∃ x, atI xs i = some x ∧ Dq H x d := by
  unfold atI at hi ⊢
  rw [h.length]
  cases e : ixN ds.length i with
  | none => rw [e] at hi; cases hi
  | some j =>
    rw [e] at hi
    exact h.get' hi
theorem scL_at {H : Hp} {xs : List V} {ss : List Sc} {i : Int} {s : Sc} (h : ScL H xs ss) (hi : atI ss i = some s) : ∃ x, atI xs i = some x ∧ s.p H x := by
  unfold atI at hi ⊢
  rw [h.length]
  cases e : ixN ss.length i with
  | none => rw [e] at hi; cases hi
  | some j =>
    rw [e] at hi
    exact h.get' hi
theorem ro_ixL {K : PySem.W.Frag} {ds : List PyData} {i : Int} {d : PyData} (hi : atI ds i = some d) (q : Φ (.d d) μ) : RO F μ (rIxL K) (.d (.list ds)) (I i) Φ := fun P μf hP H x y Q c k => by
  obtain ⟨J, c⟩ := c
  obtain ⟨a, xs, rfl, h1, h2⟩ := dq_lst c.up.1.2
  obtain ⟨v, hv, hd⟩ := dqAll_at h2 hi
  exact ⟨a, xs, i, v, rfl, dq_int c.up.2, SqL.of (c.ex _ _ h1), hv, k _ μ _ H q ⟨J, c.ex, ⟨c.up.1.1, hd⟩, c.nd, c.mu⟩⟩
theorem ro_ixT {K : PySem.W.Frag} {ds : List PyData} {i : Int} {d : PyData} (hi : atI ds i = some d) (q : Φ (.d d) μ) : RO F μ (rIxT K) (.d (.tuple ds)) (I i) Φ := fun P μf hP H x y Q c k => by
  obtain ⟨J, c⟩ := c
  obtain ⟨a, xs, rfl, h1, h2⟩ := dq_tup c.up.1.2
  obtain ⟨v, hv, hd⟩ := dqAll_at h2 hi
  exact ⟨a, xs, i, v, rfl, dq_int c.up.2, SqT.of (c.ex _ _ h1), hv, k _ μ _ H q ⟨J, c.ex, ⟨c.up.1.1, hd⟩, c.nd, c.mu⟩⟩
theorem ro_ixM {K : PySem.W.Frag} {p : Addr} {n : Nat} {ss : List Sc} {i : Int} {s : Sc} (hm : μ[n]? = some (p, .lst ss)) (hi : atI ss i = some s) (q : Φ s μ) : RO F μ (rIxL K) (.v (.ref p)) (I i) Φ := fun P μf hP H x y Q c k => by
  obtain ⟨J, c⟩ := c
  have ex : x = .ref p := c.up.1.2
  subst ex
  obtain ⟨_, us, h1, h2⟩ := c.mu _ (List.mem_of_getElem? (ix_left hm))
  obtain ⟨v, hv, hd⟩ := scL_at h2 hi
  exact ⟨p, us, i, v, rfl, dq_int c.up.2, SqL.of h1, hv, k _ μ _ H q ⟨J, c.ex, ⟨c.up.1.1, hd⟩, c.nd, c.mu⟩⟩

/-! ### flat things in lists and tuples -/
def flatD : PyData → Bool
  | .none => true | .bool _ => true | .int _ => true | .str _ => true | _ => false
def vOf : PyData → V
  | .none => .non | .bool b => .bl b | .int i => .int i | .str x => .str x | _ => .non
theorem flatD_v {H : Hp} {v : V} {d : PyData} (h : flatD d = true) (c : Dq H v d) : v = vOf d ∧ flatV v = true := by
  cases d with
  | none => rw [dq_non c]; exact ⟨rfl, rfl⟩
  | bool y => rw [dq_bl c]; exact ⟨rfl, rfl⟩
  | int y => rw [dq_int c]; exact ⟨rfl, rfl⟩
  | str y => rw [dq_str c]; exact ⟨rfl, rfl⟩
  | _ => cases h
theorem flatAll_v {H : Hp} : ∀ {vs : List V} {ds : List PyData}, ds.all flatD = true → DqAll H vs ds → vs = ds.map vOf ∧ vs.all flatV = true
  | _, _, _, .nil => ⟨rfl, rfl⟩
  | _, _, h, .cons h1 h2 => by
    rw [List.all_cons, Bool.and_eq_true] at h
    obtain ⟨e1, f1⟩ := flatD_v h.1 h1
    obtain ⟨e2, f2⟩ := flatAll_v h.2 h2
    exact ⟨by rw [e1, e2, List.map_cons], by rw [List.all_cons, f1, f2]; rfl⟩
theorem ro_inL {K : PySem.W.Frag} {neg : Bool} {x : PyData} {ds : List PyData} (hx : flatD x = true) (hd : ds.all flatD = true) (q : Φ (B (if neg then !inV (vOf x) (ds.map vOf) else inV (vOf x) (ds.map vOf))) μ) : RO F μ (rIn K neg) (.d x) (.d (.list ds)) Φ := fun P μf hP H u v Q c k => by
  obtain ⟨a, xs, rfl, h1, h2⟩ := dq_lst c.at.2
  obtain ⟨e1, f1⟩ := flatD_v hx c.at.1.2
  obtain ⟨e2, f2⟩ := flatAll_v hd h2
  refine ⟨a, xs, rfl, .inl (SqL.of h1), f1, f2, ?_⟩
  rw [e1, e2]
  exact k _ μ _ H q ((c.le Up.and_l).le fun I z => ⟨z.1, .bl _⟩)
theorem ro_inTu {K : PySem.W.Frag} {neg : Bool} {x : PyData} {ds : List PyData} (hx : flatD x = true) (hd : ds.all flatD = true) (q : Φ (B (if neg then !inV (vOf x) (ds.map vOf) else inV (vOf x) (ds.map vOf))) μ) : RO F μ (rIn K neg) (.d x) (.d (.tuple ds)) Φ := fun P μf hP H u v Q c k => by
  obtain ⟨a, xs, rfl, h1, h2⟩ := dq_tup c.at.2
  obtain ⟨e1, f1⟩ := flatD_v hx c.at.1.2
  obtain ⟨e2, f2⟩ := flatAll_v hd h2
  refine ⟨a, xs, rfl, .inr (SqT.of h1), f1, f2, ?_⟩
  rw [e1, e2]
  exact k _ μ _ H q ((c.le Up.and_l).le fun I z => ⟨z.1, .bl _⟩)
theorem ro_cat {ds es : List PyData} (h : ds.length + es.length ≤ 16777216) (q : Φ (.d (.list (ds ++ es))) μ) : RO F μ rCat (.d (.list ds)) (.d (.list es)) Φ := fun P μf hP H u v Q c k => by
  obtain ⟨a, xs, rfl, h1, h2⟩ := dq_lst c.at.1.2
  obtain ⟨b, ys, rfl, h3, h4⟩ := dq_lst c.at.2
  refine ⟨a, b, xs, ys, rfl, rfl, h1, h3, by rw [h2.length, h4.length]; exact sz_of h, fun p hp => k _ μ _ _ q ?_⟩
  refine (c.new (F := sat (.d (.list (ds ++ es))) (.ref p)) hp fun I e z => ?_).le fun I z => ⟨z.1.1.1, z.2⟩
  obtain ⟨a', xs', e1, g1, g2⟩ := dq_lst z.1.2
  cases e1
  obtain ⟨b', ys', e2, g3, g4⟩ := dq_lst z.2
  cases e2
  have e3 : xs' = xs := by have := e _ _ g1; rw [h1] at this; cases this; rfl
  have e4 : ys' = ys := by have := e _ _ g3; rw [h3] at this; cases this; rfl
  subst e3 e4
  exact .lst upd_same (dqAll_mono (Ex.new (e.back hp)) _ _ (g2.append g4))
theorem dqAll_rep {H : Hp} {xs : List V} {ds : List PyData} (h : DqAll H xs ds) : ∀ n : Nat, DqAll H (List.replicate n xs).flatten (List.replicate n ds).flatten
  | 0 => .nil
  | n + 1 => by
    rw [List.replicate_succ, List.replicate_succ, List.flatten_cons, List.flatten_cons]
    exact h.append (dqAll_rep h n)
theorem ro_rep {ds : List PyData} {n : Int} (h1 : -(2 ^ 63) ≤ n) (h2 : n < 2 ^ 63) (h : ds.length * n.toNat ≤ 16777216) (q : Φ (.d (.list (List.replicate n.toNat ds).flatten)) μ) : RO F μ rRep (.d (.list ds)) (I n) Φ := fun P μf hP H u v Q c k => by
  obtain ⟨a, xs, rfl, g1, g2⟩ := dq_lst c.at.1.2
  refine ⟨a, n, xs, rfl, dq_int c.at.2, g1, h1, h2, by rw [g2.length]; exact sz_of h, fun p hp => k _ μ _ _ q ?_⟩
  refine (c.new (F := sat (.d (.list (List.replicate n.toNat ds).flatten)) (.ref p)) hp fun I e z => ?_).le fun I z => ⟨z.1.1.1, z.2⟩
  obtain ⟨a', xs', e1, g3, g4⟩ := dq_lst z.1.2
  cases e1
  have e3 : xs' = xs := by have := e _ _ g3; rw [g1] at this; cases this; rfl
  subst e3
  exact .lst upd_same (dqAll_mono (Ex.new (e.back hp)) _ _ (dqAll_rep g4 _))

/-! ### built-ins -/
theorem rc_lenT {K : PySem.W.Frag} {l : List Nat} (h : l.length ≤ 16777216) (q : Φ (I (l.length : Int)) μ) : RC F μ (fun xs H Q => ∃ x n, xs = [x] ∧ LenV K x H n ∧ Q (.int n) H) [T l] Φ := fun P μf hP H xs Q c k => by
  obtain ⟨y, rfl, hy⟩ := scL1 c.at.2
  rw [dq_str hy]
  exact ⟨_, l.length, rfl, ⟨by rw [tx_len]; exact sz_of h, (tx_len l).symm⟩, k _ μ _ H q (cf_ans c fun _ _ _ => .int _)⟩
theorem rc_lenL {K : PySem.W.Frag} {ds : List PyData} (q : Φ (I (ds.length : Int)) μ) : RC F μ (fun xs H Q => ∃ x n, xs = [x] ∧ LenV K x H n ∧ Q (.int n) H) [.d (.list ds)] Φ := fun P μf hP H xs Q c k => by
  obtain ⟨y, rfl, hy⟩ := scL1 c.at.2
  obtain ⟨a, us, rfl, g1, g2⟩ := dq_lst hy
  exact ⟨_, ds.length, rfl, .inl ⟨us, SqL.of g1, g2.length.symm⟩, k _ μ _ H q (cf_ans c fun _ _ _ => .int _)⟩
theorem rc_lenU {K : PySem.W.Frag} {ds : List PyData} (q : Φ (I (ds.length : Int)) μ) : RC F μ (fun xs H Q => ∃ x n, xs = [x] ∧ LenV K x H n ∧ Q (.int n) H) [.d (.tuple ds)] Φ := fun P μf hP H xs Q c k => by
  obtain ⟨y, rfl, hy⟩ := scL1 c.at.2
  obtain ⟨a, us, rfl, g1, g2⟩ := dq_tup hy
  exact ⟨_, ds.length, rfl, .inr ⟨us, SqT.of g1, g2.length.symm⟩, k _ μ _ H q (cf_ans c fun _ _ _ => .int _)⟩
theorem rc_lenM {K : PySem.W.Frag} {p : Addr} {n : Nat} {ss : List Sc} (hm : μ[n]? = some (p, .lst ss)) (q : Φ (I (ss.length : Int)) μ) : RC F μ (fun xs H Q => ∃ x n, xs = [x] ∧ LenV K x H n ∧ Q (.int n) H) [.v (.ref p)] Φ := fun P μf hP H xs Q c k => by
  obtain ⟨y, rfl, hy⟩ := scL1 c.at.2
  have ex : y = .ref p := hy
  subst ex
  obtain ⟨I, e1, _, _, us, g1, g2⟩ := c.get (ix_left hm)
  exact ⟨_, ss.length, rfl, .inl ⟨us, SqL.of g1, g2.length.symm⟩, k _ μ _ H q (cf_ans c fun _ _ _ => .int _)⟩
theorem rc_abs {i : Int} (q : Φ (I (if i < 0 then -i else i)) μ) : RC F μ (fun xs H Q => ∃ i, xs = [.int i] ∧ Q (.int (if i < 0 then -i else i)) H) [I i] Φ := fun P μf hP H xs Q c k => by
  obtain ⟨y, rfl, hy⟩ := scL1 c.at.2
  exact ⟨i, by rw [dq_int hy], k _ μ _ H q (cf_ans c fun _ _ _ => .int _)⟩
theorem rc_max2 {i j : Int} (q : Φ (I (if j > i then j else i)) μ) : RC F μ (fun xs H Q => ∃ i j, xs = [.int i, .int j] ∧ Q (.int (if j > i then j else i)) H) [I i, I j] Φ := fun P μf hP H xs Q c k => by
  obtain ⟨y, z, rfl, hy, hz⟩ := scL2 c.at.2
  exact ⟨i, j, by rw [dq_int hy, dq_int hz], k _ μ _ H q (cf_ans c fun _ _ _ => .int _)⟩
theorem rc_min2 {i j : Int} (q : Φ (I (if j < i then j else i)) μ) : RC F μ (fun xs H Q => ∃ i j, xs = [.int i, .int j] ∧ Q (.int (if j < i then j else i)) H) [I i, I j] Φ := fun P μf hP H xs Q c k => by
  obtain ⟨y, z, rfl, hy, hz⟩ := scL2 c.at.2
  exact ⟨i, j, by rw [dq_int hy, dq_int hz], k _ μ _ H q (cf_ans c fun _ _ _ => .int _)⟩
theorem rc_int {i : Int} (q : Φ (I i) μ) : RC F μ (fun xs H Q => (∃ i, xs = [.int i] ∧ Q (.int i) H) ∨ ∃ k, xs = [.bl k] ∧ Q (.int (if k then 1 else 0)) H) [I i] Φ := fun P μf hP H xs Q c k => by
  obtain ⟨y, rfl, hy⟩ := scL1 c.at.2
  exact .inl ⟨i, by rw [dq_int hy], k _ μ _ H q (cf_ans c fun _ _ _ => .int _)⟩
theorem rc_intB {b : Bool} (q : Φ (I (if b then 1 else 0)) μ) : RC F μ (fun xs H Q => (∃ i, xs = [.int i] ∧ Q (.int i) H) ∨ ∃ k, xs = [.bl k] ∧ Q (.int (if k then 1 else 0)) H) [B b] Φ := fun P μf hP H xs Q c k => by
  obtain ⟨y, rfl, hy⟩ := scL1 c.at.2
  exact .inr ⟨b, by rw [dq_bl hy], k _ μ _ H q (cf_ans c fun _ _ _ => .int _)⟩
theorem dqAll_ints {H : Hp} : ∀ {ns : List Int} {vs : List V}, DqAll H vs (ns.map PyData.int) → vs = ns.map V.int
  | [], _, h => by cases h; rfl
  | n :: ns, _, h => by
    cases h with
    | cons h1 h2 => rw [dq_int h1, dqAll_ints h2]; rfl
theorem dqAll_bls {H : Hp} : ∀ {ns : List Bool} {vs : List V}, DqAll H vs (ns.map PyData.bool) → vs = ns.map V.bl
  | [], _, h => by cases h; rfl
  | n :: ns, _, h => by
    cases h with
    | cons h1 h2 => rw [dq_bl h1, dqAll_bls h2]; rfl
theorem dqAll_strs {H : Hp} : ∀ {ns : List (List Nat)} {vs : List V}, DqAll H vs (ns.map fun l => PyData.str (Tx l)) → vs = (ns.map Tx).map V.str
  | [], _, h => by cases h; rfl
  | n :: ns, _, h => by
    cases h with
    | cons h1 h2 => rw [dq_str h1, dqAll_strs h2]; rfl
theorem rc_sum {K : PySem.W.Frag} {ns : List Int} (q : Φ (I ns.sum) μ) : RC F μ (rSum K) [.d (.list (ns.map .int))] Φ := fun P μf hP H xs Q c k => by
  obtain ⟨y, rfl, hy⟩ := scL1 c.at.2
  obtain ⟨a, us, rfl, g1, g2⟩ := dq_lst hy
  exact ⟨a, ns, rfl, by rw [← dqAll_ints g2]; exact SqL.of g1, k _ μ _ H q (cf_ans c fun _ _ _ => .int _)⟩
theorem rc_min {K : PySem.W.Frag} {ns : List Int} (hn : ns ≠ []) (q : ∀ m, m ∈ ns → (∀ y, y ∈ ns → m ≤ y) → Φ (I m) μ) : RC F μ (rMin K) [.d (.list (ns.map .int))] Φ := fun P μf hP H xs Q c k => by
  obtain ⟨y, rfl, hy⟩ := scL1 c.at.2
  obtain ⟨a, us, rfl, g1, g2⟩ := dq_lst hy
  exact ⟨a, ns, rfl, by rw [← dqAll_ints g2]; exact SqL.of g1, List.length_pos_iff.mpr hn, fun m h1 h2 => k _ μ _ H (q m h1 h2) (cf_ans c fun _ _ _ => .int _)⟩
theorem rc_max {K : PySem.W.Frag} {ns : List Int} (hn : ns ≠ []) (q : ∀ m, m ∈ ns → (∀ y, y ∈ ns → y ≤ m) → Φ (I m) μ) : RC F μ (rMax K) [.d (.list (ns.map .int))] Φ := fun P μf hP H xs Q c k => by
  obtain ⟨y, rfl, hy⟩ := scL1 c.at.2
  obtain ⟨a, us, rfl, g1, g2⟩ := dq_lst hy
  exact ⟨a, ns, rfl, by rw [← dqAll_ints g2]; exact SqL.of g1, List.length_pos_iff.mpr hn, fun m h1 h2 => k _ μ _ H (q m h1 h2) (cf_ans c fun _ _ _ => .int _)⟩
theorem rc_all {K : PySem.W.Frag} {bs : List Bool} (q : Φ (B (bs.all id)) μ) : RC F μ (rAll K) [.d (.list (bs.map .bool))] Φ := fun P μf hP H xs Q c k => by
  obtain ⟨y, rfl, hy⟩ := scL1 c.at.2
  obtain ⟨a, us, rfl, g1, g2⟩ := dq_lst hy
  exact ⟨a, bs, rfl, by rw [← dqAll_bls g2]; exact SqL.of g1, k _ μ _ H q (cf_ans c fun _ _ _ => .bl _)⟩
theorem rc_any {K : PySem.W.Frag} {bs : List Bool} (q : Φ (B (bs.any id)) μ) : RC F μ (rAny K) [.d (.list (bs.map .bool))] Φ := fun P μf hP H xs Q c k => by
  obtain ⟨y, rfl, hy⟩ := scL1 c.at.2
  obtain ⟨a, us, rfl, g1, g2⟩ := dq_lst hy
  exact ⟨a, bs, rfl, by rw [← dqAll_bls g2]; exact SqL.of g1, k _ μ _ H q (cf_ans c fun _ _ _ => .bl _)⟩
theorem joinL_nil : ∀ ls : List (List Nat), TL.joinL [] ls = ls.flatten
  | [] => rfl
  | [p] => by simp [TL.joinL]
  | p :: q :: r => by
    have ih := joinL_nil (q :: r)
    show p ++ ([] ++ TL.joinL [] (q :: r)) = _
    rw [ih]; simp
theorem map_tl : ∀ ls : List (List Nat), (ls.map Tx).map TL.tl = ls
  | [] => rfl
  | p :: r => by
    rw [List.map_cons, List.map_cons, map_tl r]
theorem tx_join (a : List Nat) (ls : List (List Nat)) : Txt.join (Tx a) (ls.map Tx) = Tx (TL.joinL a ls) := by
  have h := TL.tl_join (Tx a) (ls.map Tx)
  rw [map_tl] at h
  exact TL.ext_tl ((congrArg TL.tl (TL.join_eq (Tx a) (ls.map Tx))).trans h)
theorem rm_join {K : PySem.W.Frag} {ls : List (List Nat)} (h : (ls.map List.length).sum ≤ 16777216) (q : Φ (T ls.flatten) μ) : RM F μ (fun x xs H Q => ∃ a p, ∃ ys : List Str, x = .str a ∧ xs = [.ref p] ∧ (SqL K H p (ys.map V.str) ∨ SqT K H p (ys.map V.str)) ∧
    (ys.map (·.length)).sum + ys.length * a.length ≤ 16777216 ∧ Q (.str (Txt.join a ys)) H) (T []) [.d (.list (ls.map fun l => .str (Tx l)))] Φ := fun P μf hP H x xs Q c k => by
  obtain ⟨y, rfl, hy⟩ := scL1 c.at.2
  obtain ⟨a, us, rfl, g1, g2⟩ := dq_lst hy
  refine ⟨Tx [], a, ls.map Tx, dq_str c.at.1.2, rfl, .inl (by rw [← dqAll_strs g2]; exact SqL.of g1), ?_, ?_⟩
  · have e1 : (ls.map Tx).map (·.length) = ls.map List.length := by rw [List.map_map]; exact List.map_congr_left fun l _ => tx_len l
    rw [e1, show (Tx []).length = 0 from rfl]
    omega
  · rw [tx_join, joinL_nil]
    exact k _ μ _ H q ((c.le Up.and_l).le fun I z => ⟨z.1, .str _⟩)

/-! ### what is at hand changes -/
theorem rm_append {p : Addr} {n : Nat} {ss : List Sc} {s : Sc} (hm : μ[n]? = some (p, .lst ss)) (hz : ss.length < 16777216) (q : Φ N0 (μ.set n (p, .lst (ss ++ [s])))) : RM F μ rAppend (.v (.ref p)) [s] Φ := fun P μf hP H x xs Q c k => by
  obtain ⟨y, rfl, _⟩ := scL1 c.at.2
  have ex : x = .ref p := c.at.1.2
  subst ex
  obtain ⟨I, e1, _, _, us, g1, g2⟩ := c.get (ix_left hm)
  have hl := ScL.length g2
  refine ⟨p, us, y, rfl, rfl, g1, by rw [sizeLine_eq]; omega, k _ _ _ _ q ?_⟩
  refine (cf_set (m' := .lst (ss ++ [s])) c hm fun I e z hm1 => ?_).le fun I z => ⟨z.1.1, .non⟩
  obtain ⟨us', h1, h2⟩ := hm1
  have e3 : us' = us := by rw [g1] at h1; cases h1; rfl
  subst e3
  obtain ⟨y', ey, hy⟩ := scL1 z.2
  cases ey
  exact ⟨_, upd_same, ScL.append h2 (.cons hy .nil)⟩
theorem rm_pop {p : Addr} {n : Nat} {ss : List Sc} {s : Sc} (hm : μ[n]? = some (p, .lst ss)) (hs : ss[ss.length - 1]? = some s) (q : Φ s (μ.set n (p, .lst ss.dropLast))) : RM F μ rPop (.v (.ref p)) [] Φ := fun P μf hP H x xs Q c k => by
  have ez := scL0 c.at.2
  subst ez
  have ex : x = .ref p := c.at.1.2
  subst ex
  obtain ⟨J, c⟩ := c
  obtain ⟨hJ, us, g1, g2⟩ := c.mu _ (List.mem_of_getElem? (ix_left hm))
  have hl := ScL.length g2
  obtain ⟨y, hy, hsy⟩ := g2.get' hs
  refine ⟨p, us, y, rfl, rfl, g1, by rw [hl]; exact hy, k _ _ _ _ q ?_⟩
  have c2 : Cf (P.and (sat s y)) (μ ++ μf) H := ⟨J, c.ex, ⟨c.up.1.1, hsy⟩, c.nd, c.mu⟩
  refine cf_set (m' := .lst ss.dropLast) c2 hm fun I e z hm1 => ?_
  obtain ⟨us', h1, h2⟩ := hm1
  have e3 : us' = us := by rw [g1] at h1; cases h1; rfl
  subst e3
  exact ⟨_, upd_same, ScL.dropLast h2⟩
end
/-- xs[i] = v -/
theorem gt_setL {F : Fr} {ρ : Rho} {μ : Mu} {to ti : TE} {s : Sc} {Φ : PN} (h : EvM F ρ μ to fun so μ1 => EvM F ρ μ1 ti fun si μ2 => ∃ (p : Addr) (n : Nat) (ss : List Sc) (i : Int) (j : Nat), so = .v (.ref p) ∧ si = I i ∧ μ2[n]? = some (p, .lst ss) ∧ ixN ss.length i = some j ∧ Φ ρ (μ2.set n (p, .lst (ss.set j s)))) :
    Gt F ρ μ (gSub to ti rSetL) s Φ := fun P μf hP σ H v Q c k =>
  h (P.and (sat s v)) μf (le_l hP) σ H _ (c.le fun I z => ⟨⟨z.1.1, z.2⟩, z.1.2⟩) fun so μ1 o H1 h1 c1 =>
    h1 ((P.and (sat s v)).and (sat so o)) μf (le_l (le_l hP)) σ H1 _ (c1.le fun I z => ⟨⟨z.1.1, z.2⟩, z.1.2⟩) fun si μ2 i H2 h2 c2 => by
      obtain ⟨p, n, ss, ix, j, rfl, rfl, hm, hj, q⟩ := h2
      have eo : o = .ref p := c2.at.1.1.2
      subst eo
      have ei := dq_int c2.at.2
      subst ei
      obtain ⟨J, e1, _, _, us, g1, g2⟩ := c2.get (ix_left hm)
      refine ⟨p, us, ix, j, rfl, rfl, g1, by rw [ScL.length g2]; exact hj, k _ _ _ _ q ?_⟩
      refine (cf_set (m' := .lst (ss.set j s)) c2 hm fun I e z hm1 => ?_).le fun I z => ⟨z.1.1.1.1, z.1.2⟩
      obtain ⟨us', h3, h4⟩ := hm1
      have e3 : us' = us := by rw [g1] at h3; cases h3; rfl
      subst e3
      exact ⟨_, upd_same, ScL.set j z.1.1.1.2 h4⟩
end TK

/-! further rules of syntax: text * int, text[::-1], swapcase, list slots .., calls by keywords and of local names, several except clauses with names -/
namespace TK
open PySem PySem.Spec PyProof.Rows L2

section
variable {X : Cx}
/-- text * int -/
def rRepS : R2 := fun x y H Q => ∃ (z : Str) (n : Int), x = .str z ∧ y = .int n ∧ -(2 ^ 63) ≤ n ∧ n < 2 ^ 63 ∧ z.length * n.toNat ≤ 16777216 ∧ Q (.str ⟨(List.replicate n.toNat z.cps.toList).flatten.toArray⟩) H
theorem foldl_repA (a : Array Nat) : ∀ (n : Nat) (acc : Array Nat), List.foldl (· ++ ·) acc (List.replicate n a) = (acc.toList ++ (List.replicate n a.toList).flatten).toArray
  | 0, acc => by simp
  | n + 1, acc => by
    rw [List.replicate_succ, List.foldl_cons, foldl_repA a n (acc ++ a)]
    apply Array.toList_inj.mp
    simp [List.replicate_succ]
theorem op_repS : OpR X (binaryOp .Mult) rRepS := by
  intro pins s σ H x y v u Q I rx ry h
  obtain ⟨z, n, rfl, rfl, h1, h2, hz, q⟩ := h
  obtain ⟨t, rfl⟩ := rx
  obtain ⟨t', rfl⟩ := ry
  refine PySem.P.mul_str ?_ (fun hn hc => ?_) (fun hn hc => ?_) ?_
  · rw [decide_eq_false (show ¬ n < -(2 ^ 63 : Int) by omega), decide_eq_false (show ¬ n ≥ 2 ^ 63 by omega)] <;> rfl
  · intro hgt
    have hpos : 0 < n := by omega
    have hzl : 0 < z.length := by
      rcases Nat.eq_zero_or_pos z.length with h0 | h0
      · rw [h0] at hc; simp at hc
      · exact h0
    have h3 : (z.length : Int) ≤ 16777216 := by
      have h4 : z.length * 1 ≤ z.length * n.toNat := Nat.mul_le_mul_left _ (by omega)
      omega
    have h5 : n ≤ 16777216 := by
      have h4 : 1 * n.toNat ≤ z.length * n.toNat := Nat.mul_le_mul_right _ hzl
      omega
    have h6 : (16777216 : Int) ≤ (2 ^ 63 - 1) / n := by
      have h7 : (16777216 : Int) * n ≤ 2 ^ 63 - 1 := by omega
      exact (Int.le_ediv_iff_mul_le hpos).mpr h7
    omega
  · exact PyProof.Rows.short24 hz
  · have key : n < 1 → (⟨(List.replicate n.toNat z.cps.toList).flatten.toArray⟩ : Str) = Str.empty := fun hn => by
      rw [show n.toNat = 0 by omega]; rfl
    by_cases hn : n < 1
    · rw [if_pos hn]
      rw [key hn] at q
      exact ⟨by decide, .str Str.empty, H, I.tok _, ⟨_, rfl⟩, q⟩
    · rw [if_neg hn]
      by_cases hc : (n == 1 || z.length == 0) = true
      · rw [if_pos hc]
        have e : (⟨(List.replicate n.toNat z.cps.toList).flatten.toArray⟩ : Str) = z := by
          obtain ⟨a⟩ := z
          rcases Bool.or_eq_true_iff.mp hc with h | h
          · have h' : n = 1 := by simpa using h
            subst h'
            simp
          · have h' : a.size = 0 := by simpa [Str.length] using h
            have h'' : a = #[] := Array.size_eq_zero_iff.mp h'
            subst h''
            simp
        rw [e] at q
        exact ⟨.str z, H, I, ⟨_, rfl⟩, q⟩
      · rw [if_neg hc]
        have e : (⟨(List.replicate n.toNat z.cps).foldl (· ++ ·) #[]⟩ : Str) = ⟨(List.replicate n.toNat z.cps.toList).flatten.toArray⟩ := by
          rw [foldl_repA]; simp
        rw [e]
        refine ⟨?_, .str _, H, I.tok _, ⟨_, rfl⟩, q⟩
        have hl : (⟨(List.replicate n.toNat z.cps.toList).flatten.toArray⟩ : Str).length = z.length * n.toNat := by
          simp [Str.length, List.length_flatten, Nat.mul_comm]
        rw [hl, sizeLine_eq]; exact hz
/-- text[::-1] -/
def tRevS (te : TE) : TE := fun σ H Q => te σ H fun x H1 => ∃ z : Str, x = .str z ∧ z.length ≤ 16777216 ∧ Q (.str ⟨z.cps.toList.reverse.toArray⟩) H1
theorem rev_pick (z : Str) : (Builtin.Str.strSliceIndices none none (-1) z.length).filterMap (z.cps[·]?) = z.cps.toList.reverse := by
  have e : Builtin.Str.strSliceIndices none none (-1) z.length = sliceRange ((z.length : Int) - 1) (-1) (-1) := rfl
  rw [e, PySem.W.krv_sliceRange, PySem.W.krv_range, List.filterMap_reverse]
  show ((List.range z.cps.size).filterMap (z.cps[·]?)).reverse = _
  rw [PySem.W.krv_all]
theorem pe_revS {e : Expr} {te : TE} {k : Nat} {p1 p2 p3 pos : Pos} (he : PE X e te) : PE X (.Subscript e (.Slice none none (some (.UnaryOp .USub (.Constant (.int 1) k p1) p2)) p3) pos) (tRevS te) := by
  refine ⟨fun pins s σ H Q I h => ?_⟩
  refine Subscript_ (thn (he.run pins s σ H _ I h) fun v s1 ⟨x, H1, I1, r1, q1⟩ => ?_)
  obtain ⟨z, ex, hz, q⟩ := q1
  subst ex
  obtain ⟨t, rfl⟩ := r1
  have hst : PO X (some (.UnaryOp .USub (.Constant (.int 1) k p1) p2)) (tPart (tUn (rU fun i => .int (-i)) (tC (.int 1)))) := po_some (pe_un un_neg pe_int)
  refine wpAny_Slice (thn (po_none.run pins s1 σ H1 (fun o H2 => o = none ∧ H2 = H1) I1 ⟨rfl, rfl⟩) fun vl s2 ⟨l, H2, I2, pl, el, e2⟩ => ?_)
  subst el e2
  refine thn (po_none.run pins s2 σ H2 (fun o H3 => o = none ∧ H3 = H2) I2 ⟨rfl, rfl⟩) fun vu s3 ⟨u, H3, I3, pu, eu, e3⟩ => ?_
  subst eu e3
  refine thn (hst.run pins s3 σ H3 (fun o H4 => o = some (-1) ∧ H4 = H3) I3 ⟨1, rfl, -1, rfl, rfl, rfl⟩) fun vs s4 ⟨o, H4, I4, ps, eo, e4⟩ => ?_
  subst eo e4
  have I5 : Inv X pins σ H4 { s4 with heap := s4.heap.push { cls := .type "slice", data := .fields #[vl, vu, vs] } } := I4.kept (t' := s4.toks) fun b ob q => Heap.get?_push_of_some _ q
  show wpAny (model X.prog X.w) X.A (subscriptTail e (.Slice none none (some (.UnaryOp .USub (.Constant (.int 1) k p1) p2)) p3) (.str z t) (.ref s4.heap.objs.size)) (EP X pins σ Q) X.xe { s4 with heap := s4.heap.push { cls := .type "slice", data := .fields #[vl, vu, vs] } }
  refine tail_any (ops := [.str z t, .ref s4.heap.objs.size]) (typeIs_str _ _ _) PySem.F.slot_str_getitem.lookup ?_ (by with_unfolding_all rfl)
  obtain ⟨l', rfl, el'⟩ := IsPart.raw pl
  obtain ⟨u', rfl, eu'⟩ := IsPart.raw pu
  obtain ⟨st', rfl, es'⟩ := IsPart.raw ps
  cases l' with
  | some _ => cases el'
  | none =>
    cases u' with
    | some _ => cases eu'
    | none =>
      cases st' with
      | none => cases es'
      | some st =>
        obtain ⟨sti, stt⟩ := st
        have es2 : sti = -1 := Option.some.inj es'
        subst es2
        obtain ⟨os, hos, hcs, hds⟩ : ∃ o, (s4.heap.push { cls := .type "slice", data := .fields #[partValue none, partValue none, partValue (some ((-1 : Int), stt))] }).get? s4.heap.objs.size = some o ∧ o.cls = .type "slice" ∧ o.data = .fields #[partValue none, partValue none, partValue (some ((-1 : Int), stt))] := ⟨_, Heap.get?_push_size _ rfl, rfl, rfl⟩
        refine PySem.wpAny_getItem_str_slice (l := none) (u := none) (st := some ((-1 : Int), stt)) ⟨os, hos, hcs, hds⟩ rfl ?_
        have e0 : ((Builtin.Str.strSliceIndices none none (-1) z.length).filterMap (z.cps[·]?)).toArray = z.cps.toList.reverse.toArray := by rw [rev_pick]
        show Made.post (if ((-1 : Int) == 1 && (Builtin.Str.strSliceIndices none none (-1) z.length).length == z.length) = true then Made.val (.str z t)
          else Made.str ⟨((Builtin.Str.strSliceIndices none none (-1) z.length).filterMap (z.cps[·]?)).toArray⟩) (EP X pins σ Q) _
        rw [if_neg (by rw [show ((-1 : Int) == 1) = false from rfl, Bool.false_and]; exact Bool.false_ne_true), e0]
        refine ⟨?_, .str _, H4, I5.tok _, ⟨_, rfl⟩, q⟩
        show (⟨z.cps.toList.reverse.toArray⟩ : Str).length ≤ sizeLine
        have : (⟨z.cps.toList.reverse.toArray⟩ : Str).length = z.length := by simp [Str.length]
        rw [this, sizeLine_eq]; exact hz
theorem mt_swapcase : MtR X "str.swapcase" (fun x xs H Q => ∃ a, x = .str a ∧ xs = [] ∧ a.length ≤ 5592405 ∧ Q (.str (Txt.swapcase a)) H) :=
  mt0 (C := fun a => a.length ≤ 5592405) (g := fun a => .str (Txt.swapcase a)) fun a _ s _ hc h => PySem.SC.swapcase (PyProof.Rows.fit_swapcase hc) (h _ (s.toks + 1) ⟨_, rfl⟩)

/-! ### several except clauses, with names or without -/
def wMix (K : PySem.W.Frag) (Wout : WX) (D : Ends) : List (Value × Option Nat × (Addr → Value → Option Addr → TS)) → WX
  | [] => Wout
  | (c, none, ts) :: r => fun cls d σ H => ∃ b, PySem.W.exmOne K cls c = some b ∧ (b = true → ∀ a, H a = none → ts a cls d D σ H) ∧ (b = false → wMix K Wout D r cls d σ H)
  | (c, some i, ts) :: r => fun cls d σ H => ∃ b, PySem.W.exmOne K cls c = some b ∧
      (b = true → ∀ a, H a = none → ts a cls d { nx := fun σ' H' => D.nx (σ'.set i none) H', rt := D.rt, bk := fun σ' H' => D.bk (σ'.set i none) H', ct := fun σ' H' => D.ct (σ'.set i none) H' } (σ.set i (some (.ref a))) H) ∧
      (b = false → wMix K Wout D r cls d σ H)
inductive HdsMix (X : Cx) : List ExceptHandler → List (Value × Option Nat × (Addr → Value → Option Addr → TS)) → Prop
  | nil : HdsMix X [] []
  | cons {x : Str} {c : Value} {ts : Addr → Value → Option Addr → TS} {b₀ : Stmt} {suite : List Stmt} {np pos' : Pos} {hds : List ExceptHandler} {l : List (Value × Option Nat × (Addr → Value → Option Addr → TS))} (hc : Names X x c)
      (hsu : ∀ (a : Addr) (oe : Obj) (cls : Value) (d : Option Addr) (pn : List (Addr × Obj)), Zc cls d oe → (∃ vs, oe.data = .fields vs) → PSs (X.suite a ((a, oe) :: pn)) (b₀ :: suite) (ts a cls d)) (r : HdsMix X hds l) :
      HdsMix X (.ExceptHandler (some (.Name x np)) none (b₀ :: suite) pos' :: hds) ((c, none, ts) :: l)
  | as {x n : Str} {i : Nat} {c : Value} {ts : Addr → Value → Option Addr → TS} {b₀ : Stmt} {suite : List Stmt} {np pos' : Pos} {hds : List ExceptHandler} {l : List (Value × Option Nat × (Addr → Value → Option Addr → TS))} (hc : Names X x c)
      (hN : X.N.Nodup) (hi : X.N[i]? = some n) (hln : X.env.kindOf n = some .local)
      (hsu : ∀ (a : Addr) (oe : Obj) (cls : Value) (d : Option Addr) (pn : List (Addr × Obj)), Zc cls d oe → (∃ vs, oe.data = .fields vs) → PSs (X.suite a ((a, oe) :: pn)) (b₀ :: suite) (ts a cls d)) (r : HdsMix X hds l) :
      HdsMix X (.ExceptHandler (some (.Name x np)) (some n) (b₀ :: suite) pos' :: hds) ((c, some i, ts) :: l)
variable {body : List Stmt} {h₀ : ExceptHandler} {hds : List ExceptHandler} {l : List (Value × Option Nat × (Addr → Value → Option Addr → TS))} {pos : Pos} {tb : WX → TS} {Wout : WX}
theorem ps_try_mix (hs : X.stack = X.env :: X.outer) (hf : X.env.frame = some X.env.locals) (tk : Takes X Wout)
    (hb : ∀ (W : WX) (pn : List (Addr × Obj)) (xe : Value → Shared → Prop), Takes (X.tr pn xe) W → PassesOwn (model X.prog X.w) X.A X.env xe → PSs (X.tr pn xe) body (tb W))
    (hh : HdsMix X (h₀ :: hds) l) : PS X (.Try body (h₀ :: hds) [] [] pos) (fun D σ H => tb (wMix X.K Wout D l) D σ H) := by
  refine ⟨fun pins s σ H D I h => ?_⟩
  have ok := I.ok
  have hfr : X.A.frames = some (X.env :: X.outer) := by rw [ok.frames, hs]
  refine wpAny_Try_except ?_
  refine wpAny_mono ((hb (wMix X.K Wout D l) (X.pn ++ pins) (fun e s₁ => wpAny (model X.prog X.w) X.A (noteFrame e X.env) (fun _ s₂ => wpAny (model X.prog X.w) X.A (setFlight e none) (fun _ s₃ =>
    wpAny (model X.prog X.w) X.A (handleBy e X.env (h₀ :: hds)) (SP X pins D) X.xe s₃) X.xe s₂) X.xe s₁) (fun u s' xx => ?_) PassesOwn.looking).run [] s σ H D (I.toTry _) h) (fun f s1 hsp => ?_) (fun e s1 he => he)
  · obtain ⟨a, B, sI, pins', σ', H', cls, d, rfl, J', nb, up, sky, na, os, ag, w⟩ := xx
    have J : Inv X pins σ' H' sI := J'.ofTry ok
    have sky' : Sky B (X.env :: X.outer) a (Zc cls d) X.env.locals s'.heap := by rw [← hs]; exact sky
    show wpAny (model X.prog X.w) X.A (noteFrame (.ref a) X.env) _ _ _
    refine Sky.land Zc.steady hfr hf sky' fun h3 fl3 up3 => ?_
    have J3 : Inv X pins σ' H' { s' with heap := h3 } := J.landed nb fl3.1 (up.trans up3) os ag
    obtain ⟨oe3, vs3, he3, hz3, hd3⟩ := fl3.there
    have notFr : ∀ {h : Heap} {o : Obj} {vs : Array Value}, h.FunFrames B (X.env :: X.outer) → h.get? a = some o → o.data = .fields vs → a ∉ frs (X.env :: X.outer) := fun {h o vs} ff e dd hm => by
      obtain ⟨_, o', e', hnf⟩ := ff.mem hm
      rw [e] at e'; cases e'
      exact hnf _ dd
    have nfr := notFr fl3.2.2.1 he3 hd3
    have nL : a ≠ X.env.locals := fun z => nfr (List.mem_filterMap.mpr ⟨X.env, List.mem_cons_self, by rw [hf, z]⟩)
    have nF : a ∉ X.fs := fun hm => by
      obtain ⟨e, he, q⟩ := List.mem_filterMap.mp hm
      exact nfr (List.mem_filterMap.mpr ⟨e, List.mem_cons_of_mem _ he, q⟩)
    have S3 := J3.suite he3 hd3 na nL nF
    have go : ∀ {hds' : List ExceptHandler} {l' : List (Value × Option Nat × (Addr → Value → Option Addr → TS))}, HdsMix X hds' l' → wMix X.K Wout D l' cls d σ' H' →
        wpAny (model X.prog X.w) X.A (handleBy (.ref a) X.env hds') (SP X pins D) X.xe { s' with heap := h3 } := by
      intro hds' l' hk
      induction hk with
      | nil =>
        intro w
        refine wpAny_handleBy_nil ?_
        obtain ⟨k1, k2, k3, oe, vs, T, oT, ts', he, hz, hd, h1, hr⟩ := id fl3
        unfold PySem.passOn
        refine wpAny_bind (wpAny_field he hd h1 ?_)
        rw [if_neg (show ¬ ((Value.ref T == Value.none) = true) from by simp)]
        have fin : wpAny (model X.prog X.w) X.A (setFlight (.ref a) X.env.frame) (fun _ s4 => wpAny (model X.prog X.w) X.A (throw (.ref a) : Sem Flow) (SP X pins D) X.xe s4) X.xe { s' with heap := h3 } := by
          rw [hf]
          refine HandSPX.setFlight_upZ fl3 fun h4 hh4 up4 => wpAny_throw (tk _ _ ?_)
          exact ⟨a, B, sI, pins, σ', H', cls, d, rfl, J, nb, (up.trans up3).trans up4, .inr (.inr (by rw [hs]; exact hh4)), na, os, ag, w⟩
        first
          | exact wpAny_bind (wpAny_pure (wpAny_bind fin))
          | exact wpAny_bind fin
      | @cons x c ts b₀ suite np pos' hds2 l2 hc hsu r ih =>
        intro w
        obtain ⟨b, hb1, hyes, hno⟩ := w
        refine wpAny_handleBy_cons (codeAny_handlers_test ?_) (by intro q; cases q)
        have LT : PySem.W.Looks (model X.prog X.w) h3 (typeOf (.ref a)) cls := fun A Q E s k q => wpAny_typeOf_ref (k _ _ he3) (by rw [hz3.1]; exact q)
        have LM := PySem.W.exm_one (M := model X.prog X.w) (J3.kIn) LT hb1
        have test : ∀ {Q : Value → Shared → Prop} {E : Value → Shared → Prop}, Q c { s' with heap := h3 } → wpAny (model X.prog X.w) (X.A.mark (some (.ref a))) (eval (.Name x np) X.env) Q E { s' with heap := h3 } := fun {Q E} q => by
          obtain ⟨hg, hdbg, hm | ⟨hm, hv, hnn⟩⟩ := hc
          · exact ld_glob (X := X.suite a ((a, oe3) :: (X.pn ++ pins))) S3 hg hm q hdbg
          · exact ld_blt (X := X.suite a ((a, oe3) :: (X.pn ++ pins))) S3 hg hm hv q hnn hdbg
        refine test (LM.here ?_)
        cases b with
        | true =>
          refine codeAny_handlers_suite ?_
          refine HandSPX.lands_againZ fl3 fun h4 fl4 up4 => ?_
          have J4 : Inv X pins σ' H' { s' with heap := h4 } := J.landed nb fl4.1 ((up.trans up3).trans up4) os ag
          obtain ⟨oe4, vs4, he4, hz4, hd4⟩ := fl4.there
          have S4 := J4.suite he4 hd4 na nL nF
          refine wpAny_mono ((hsu a oe4 cls d (X.pn ++ pins) hz4 ⟨_, hd4⟩).run [] _ _ H' _ S4 (hyes rfl a na)) (fun f s6 hsp => ?_) (fun _ _ z => False.elim z)
          cases f with
          | next =>
            obtain ⟨σ6, H6, S6, q6⟩ := hsp
            exact ⟨_, _, S6.unsuite ok, q6⟩
          | brk =>
            obtain ⟨σ6, H6, S6, q6⟩ := hsp
            exact ⟨_, _, S6.unsuite ok, q6⟩
          | cont =>
            obtain ⟨σ6, H6, S6, q6⟩ := hsp
            exact ⟨_, _, S6.unsuite ok, q6⟩
          | ret u =>
            obtain ⟨v6, σ6, H6, S6, r6, q6⟩ := hsp
            exact ⟨_, _, _, S6.unsuite ok, r6, q6⟩
        | false =>
          show wpAny _ X.A (handleBy (.ref a) X.env hds2) _ _ _
          exact ih (hno rfl)
      | @as x n i c ts b₀ suite np pos' hds2 l2 hc hN hi hln hsu r ih =>
        intro w
        obtain ⟨b, hb1, hyes, hno⟩ := w
        have hloc : Loc X.env.scope n := .inl hln
        refine wpAny_handleBy_cons (codeAny_handlers_test ?_) (by intro q; cases q)
        have LT : PySem.W.Looks (model X.prog X.w) h3 (typeOf (.ref a)) cls := fun A Q E s k q => wpAny_typeOf_ref (k _ _ he3) (by rw [hz3.1]; exact q)
        have LM := PySem.W.exm_one (M := model X.prog X.w) (J3.kIn) LT hb1
        have test : ∀ {Q : Value → Shared → Prop} {E : Value → Shared → Prop}, Q c { s' with heap := h3 } → wpAny (model X.prog X.w) (X.A.mark (some (.ref a))) (eval (.Name x np) X.env) Q E { s' with heap := h3 } := fun {Q E} q => by
          obtain ⟨hg, hdbg, hm | ⟨hm, hv, hnn⟩⟩ := hc
          · exact ld_glob (X := X.suite a ((a, oe3) :: (X.pn ++ pins))) S3 hg hm q hdbg
          · exact ld_blt (X := X.suite a ((a, oe3) :: (X.pn ++ pins))) S3 hg hm hv q hnn hdbg
        refine test (LM.here ?_)
        cases b with
        | true =>
          refine codeAny_handlers_suite_as ?_
          refine HandSPX.lands_againZ fl3 fun h4 fl4 up4 => ?_
          have J4 : Inv X pins σ' H' { s' with heap := h4 } := J.landed nb fl4.1 ((up.trans up3).trans up4) os ag
          obtain ⟨oe4, vs4, he4, hz4, hd4⟩ := fl4.there
          have S4 := J4.suite he4 hd4 na nL nF
          refine store_ok (X := X.suite a ((a, oe4) :: (X.pn ++ pins))) (v := .ref a) S4 hN hi hloc rfl (fun s5 S5 => ?_) (.inr hln)
          refine wpAny_mono ((hsu a oe4 cls d (X.pn ++ pins) hz4 ⟨_, hd4⟩).run [] s5 _ H' _ S5 (hyes rfl a na)) (fun f s6 hsp => ?_) (fun _ _ z => False.elim z)
          have end_ : ∀ {σ6 : L2.St} {H6 : Hp} {Q : Shared → Prop}, Inv (X.suite a ((a, oe4) :: (X.pn ++ pins))) [] σ6 H6 s6 → (∀ s7, Inv X pins (σ6.set i none) H6 s7 → Q s7) →
              wpAny (model X.prog X.w) X.A (do bindName X.env n .none; unbindBehindTheSuite X.env n pos') (fun _ s7 => Q s7) X.xe s6 := fun {σ6 H6 Q} S6 hq => gone_ok (S6.unsuite ok) hN hi hln hq
          cases f with
          | next =>
            obtain ⟨σ6, H6, S6, q6⟩ := hsp
            exact end_ S6 fun s7 J7 => ⟨_, _, J7, q6⟩
          | brk =>
            obtain ⟨σ6, H6, S6, q6⟩ := hsp
            exact end_ S6 fun s7 J7 => ⟨_, _, J7, q6⟩
          | cont =>
            obtain ⟨σ6, H6, S6, q6⟩ := hsp
            exact end_ S6 fun s7 J7 => ⟨_, _, J7, q6⟩
          | ret u =>
            obtain ⟨v6, σ6, H6, S6, r6, q6⟩ := hsp
            exact end_ S6 fun s7 J7 => ⟨_, _, _, J7, r6, q6⟩
        | false =>
          show wpAny _ X.A (handleBy (.ref a) X.env hds2) _ _ _
          exact ih (hno rfl)
    exact go hh w
  · cases f with
    | next =>
      obtain ⟨σ', H', J', q⟩ := hsp
      exact wpAny_execs_nil ⟨σ', H', J'.ofTry ok, q⟩
    | brk =>
      obtain ⟨σ', H', J', q⟩ := hsp
      exact ⟨σ', H', J'.ofTry ok, q⟩
    | cont =>
      obtain ⟨σ', H', J', q⟩ := hsp
      exact ⟨σ', H', J'.ofTry ok, q⟩
    | ret u =>
      obtain ⟨v, σ', H', J', r, q⟩ := hsp
      exact ⟨v, σ', H', J'.ofTry ok, r, q⟩
end

/-! ### calls: positional values, keywords; of a global name or of a local one -/
section
/-- f may be called with n positional values and the keywords ks: what is promised of the values in the order in which they are written -/
structure Callee (P : Program) (w : World) (K : PySem.W.Frag) (mg : Str → Option Value) (base : Heap) (k n : Nat) (ks : List Str) (f : Addr) (sp : Sp) : Prop where
  ex : ∃ (fd : FuncData) (ps : List Str) (g : List Value → List Value → List Value) (gV : List V → List V → List V) (sp0 : Sp), FnOk P w K mg base (L2.CX P w) k f fd ps sp0 ∧ PySem.W.keepIn K (.ref f) = true ∧ KBn K fd ps n ks g gV ∧
    ∀ vs zs H Q E, vs.length = n → zs.length = ks.length → sp (vs ++ zs) H Q E → sp0 (gV vs zs) H Q E
variable {X : Cx} {k n : Nat} {f : Addr} {ps ks : List Str} {sp : Sp} {E : L2.St → XK} {x : Str} {p pos : Pos} {e : Expr} {es : List Expr} {kws : List Keyword} {t tk : TA} {i : Nat} {S : Addr → Sp → Prop}
theorem run_callee {pins : List (Addr × Obj)} {σ : L2.St} {H : Hp} {s : Shared} {Q : VK} {us ws : List Value} {vs zs : List V} (c : Callee X.prog X.w X.K X.mg X.base k n ks f sp) (hr : Room k X.A) (hx : PassesAt (L2.CX X.prog X.w) X σ (E σ))
    (I : Inv X pins σ H s) (r : Vals vs us) (rz : Vals zs ws) (l1 : vs.length = n) (l2 : zs.length = ks.length) (h : sp (vs ++ zs) H Q (E σ)) : wpAny (model X.prog X.w) X.A (call (.ref f) us (ks.zip ws)) (EP X pins σ Q) X.xe s := by
  obtain ⟨fd, ps, g, gV, sp0, F, hk, hb, hsp⟩ := c.ex
  have r2 := hb.rel r rz
  refine wpAny_call (codeAny_mono (F.run X.A X.stack s H ⟨us, ks.zip ws⟩ (g us ws) (gV vs zs) Q (E σ) hr I.env0 (hb.to s us ws I.kIn (r.length.symm.trans l1) (rz.length.symm.trans l2)) r2 (hsp _ _ _ _ _ l1 l2 h)) fun r s' hq => ?_)
  cases r with
  | error e => exact hx pins H s e s' I hq
  | ok fl =>
    cases fl with
    | ret u => exact I.after hq
    | next => exact False.elim hq
    | brk => exact False.elim hq
    | cont => exact False.elim hq
def tCallX (n m : Nat) (sp : Sp) (E : L2.St → XK) (t tk : TA) : TE := fun σ H Q => t σ H fun vs H1 => tk σ H1 fun zs H2 => vs.length = n ∧ zs.length = m ∧ sp (vs ++ zs) H2 Q (E σ)
/-- a global def, with at least one positional value -/
theorem pe_kx (c : Callee X.prog X.w X.K X.mg X.base k n ks f sp) (hr : Room k X.A) (hg : Gl X x) (hm : X.mg x = some (.ref f)) (hx : ∀ σ, PassesAt (L2.CX X.prog X.w) X σ (E σ)) (ha : PA X (e :: es) t) (hkw : PK X kws tk)
    (hall : (backToKw pos (keywordEach kws X.env)).all (·.1.isSome) = true := by rfl) (hks : (backToKw pos (keywordEach kws X.env)).filterMap (·.1) = ks := by rfl)
    (hdb : (x == ("__debug__" : Str)) = false := by decide) (he : starEach (e :: es) X.env = (false, eval e X.env) :: starEach es X.env := by rfl)
    (hpl : ((backTo pos (starEach (e :: es) X.env)).any (·.1) || (backToKw pos (keywordEach kws X.env)).any (·.1.isNone)) = false := by rfl) :
    PE X (.Call (.Name x p) (e :: es) kws pos) (tCallX n ks.length sp E t tk) := by
  refine ⟨fun pins s σ H Q I h => ?_⟩
  have hk := (let ⟨_, _, _, _, _, _, hk, _⟩ := c.ex; hk)
  refine wpAny_Call_Name_kw (ld_glob I hg hm ?_ hdb)
  refine PySem.W.callWith_KW (h₀ := X.base) I.ok.mod.kin hk hall (thn (ha.run pos pins s σ H _ I h) fun us s1 ⟨vs, H1, I1, r, q⟩ => ?_) hpl he
  refine thn (hkw.run pos pins s1 σ H1 _ I1 q) fun ws s2 ⟨zs, H2, I2, rz, l1, l2, q2⟩ => ⟨I2.kIn, ?_⟩
  rw [hks]
  exact run_callee c hr (hx σ) I2 r rz l1 l2 q2
/-- a global def, keywords alone -/
theorem pe_kx0 (c : Callee X.prog X.w X.K X.mg X.base k 0 ks f sp) (hr : Room k X.A) (hg : Gl X x) (hm : X.mg x = some (.ref f)) (hx : ∀ σ, PassesAt (L2.CX X.prog X.w) X σ (E σ)) (hkw : PK X kws tk)
    (hall : (backToKw pos (keywordEach kws X.env)).all (·.1.isSome) = true := by rfl) (hks : (backToKw pos (keywordEach kws X.env)).filterMap (·.1) = ks := by rfl) (hdb : (x == ("__debug__" : Str)) = false := by decide)
    (hpl : ((backTo pos (starEach [] X.env)).any (·.1) || (backToKw pos (keywordEach kws X.env)).any (·.1.isNone)) = false := by rfl) :
    PE X (.Call (.Name x p) [] kws pos) (tCallX 0 ks.length sp E tNil tk) := by
  refine ⟨fun pins s σ H Q I h => ?_⟩
  have hk := (let ⟨_, _, _, _, _, _, hk, _⟩ := c.ex; hk)
  refine wpAny_Call_Name_kw (ld_glob I hg hm ?_ hdb)
  refine PySem.W.callWith_KW0 (h₀ := X.base) I.ok.mod.kin hk hall ?_ hpl
  refine thn (hkw.run pos pins s σ H _ I h) fun ws s2 ⟨zs, H2, I2, rz, l1, l2, q2⟩ => ⟨I2.kIn, ?_⟩
  rw [hks]
  exact run_callee (us := []) (vs := []) c hr (hx σ) I2 .nil rz rfl l2 q2
/-- the i-th slot holds one of several defs -/
def tCallLX (i n m : Nat) (S : Addr → Sp → Prop) (E : L2.St → XK) (t tk : TA) : TE := fun σ H Q => ∃ f sp, σ[i]? = some (some (.ref f)) ∧ S f sp ∧ t σ H fun vs H1 => tk σ H1 fun zs H2 => vs.length = n ∧ zs.length = m ∧ sp (vs ++ zs) H2 Q (E σ)
theorem pe_lx (c : ∀ f sp, S f sp → Callee X.prog X.w X.K X.mg X.base k n ks f sp) (hr : Room k X.A) (hN : X.N[i]? = some x) (hv : Vis X.env.scope x) (hx : ∀ σ, PassesAt (L2.CX X.prog X.w) X σ (E σ)) (ha : PA X (e :: es) t) (hkw : PK X kws tk)
    (hall : (backToKw pos (keywordEach kws X.env)).all (·.1.isSome) = true := by rfl) (hks : (backToKw pos (keywordEach kws X.env)).filterMap (·.1) = ks := by rfl)
    (hdb : (x == ("__debug__" : Str)) = false := by decide) (hcd : (x == ("__classdict__" : Str)) = false := by decide) (he : starEach (e :: es) X.env = (false, eval e X.env) :: starEach es X.env := by rfl)
    (hpl : ((backTo pos (starEach (e :: es) X.env)).any (·.1) || (backToKw pos (keywordEach kws X.env)).any (·.1.isNone)) = false := by rfl) :
    PE X (.Call (.Name x p) (e :: es) kws pos) (tCallLX i n ks.length S E t tk) := by
  refine ⟨fun pins s σ H Q I h => ?_⟩
  obtain ⟨f, sp, hs, hS, ht⟩ := h
  have cc := c f sp hS
  have hk := (let ⟨_, _, _, _, _, _, hk, _⟩ := cc.ex; hk)
  refine wpAny_Call_Name_kw (thn ((pe_var (pos := p) hN hv hdb hcd).run pins s σ H (fun v H1 => v = .ref f ∧ H1 = H) I ⟨.ref f, hs, rfl, rfl⟩) fun u s1 ⟨v, H1, I1, r1, q1⟩ => ?_)
  obtain ⟨rfl, rfl⟩ := q1
  cases r1
  refine PySem.W.callWith_KW (h₀ := X.base) I.ok.mod.kin hk hall (thn (ha.run pos pins s1 σ _ _ I1 ht) fun us s2 ⟨vs, H2, I2, r, q⟩ => ?_) hpl he
  refine thn (hkw.run pos pins s2 σ H2 _ I2 q) fun ws s3 ⟨zs, H3, I3, rz, l1, l2, q2⟩ => ⟨I3.kIn, ?_⟩
  rw [hks]
  exact run_callee cc hr (hx σ) I3 r rz l1 l2 q2
theorem pe_lx0 (c : ∀ f sp, S f sp → Callee X.prog X.w X.K X.mg X.base k 0 ks f sp) (hr : Room k X.A) (hN : X.N[i]? = some x) (hv : Vis X.env.scope x) (hx : ∀ σ, PassesAt (L2.CX X.prog X.w) X σ (E σ)) (hkw : PK X kws tk)
    (hall : (backToKw pos (keywordEach kws X.env)).all (·.1.isSome) = true := by rfl) (hks : (backToKw pos (keywordEach kws X.env)).filterMap (·.1) = ks := by rfl)
    (hdb : (x == ("__debug__" : Str)) = false := by decide) (hcd : (x == ("__classdict__" : Str)) = false := by decide)
    (hpl : ((backTo pos (starEach [] X.env)).any (·.1) || (backToKw pos (keywordEach kws X.env)).any (·.1.isNone)) = false := by rfl) :
    PE X (.Call (.Name x p) [] kws pos) (tCallLX i 0 ks.length S E tNil tk) := by
  refine ⟨fun pins s σ H Q I h => ?_⟩
  obtain ⟨f, sp, hs, hS, ht⟩ := h
  have cc := c f sp hS
  have hk := (let ⟨_, _, _, _, _, _, hk, _⟩ := cc.ex; hk)
  refine wpAny_Call_Name_kw (thn ((pe_var (pos := p) hN hv hdb hcd).run pins s σ H (fun v H1 => v = .ref f ∧ H1 = H) I ⟨.ref f, hs, rfl, rfl⟩) fun u s1 ⟨v, H1, I1, r1, q1⟩ => ?_)
  obtain ⟨rfl, rfl⟩ := q1
  cases r1
  refine PySem.W.callWith_KW0 (h₀ := X.base) I.ok.mod.kin hk hall ?_ hpl
  refine thn (hkw.run pos pins s1 σ _ _ I1 ht) fun ws s3 ⟨zs, H3, I3, rz, l1, l2, q2⟩ => ⟨I3.kIn, ?_⟩
  rw [hks]
  exact run_callee (us := []) (vs := []) cc hr (hx σ) I3 .nil rz rfl l2 q2
theorem kbN {K : PySem.W.Frag} {x qual : Str} {params : Arguments} {body : List Stmt} {scope : Scope} {kws : List (Str × V)} {fd : FuncData} {g : List Value → List Value → List Value} {gV : List V → List V → List V} (F : FunD K x qual params body scope [] kws f fd)
    (h : ∀ (kV doc pm : Value) (an : Option Addr) (cdv ct : Value) (us ws : List Value), us.length = n → ws.length = ks.length → bindArgs (PySem.W.fnOf x qual params body scope .none kV doc pm an cdv ct) ⟨us, ks.zip ws⟩ = pure (ps.zip (g us ws)))
    (rel : ∀ {vs : List V} {us : List Value} {zs : List V} {ws : List Value}, Vals vs us → Vals zs ws → Vals (gV vs zs) (g us ws)) : KBn K fd ps n ks g gV := by
  obtain ⟨oc, od, dV, kV, doc, pm, an, cdv, ct, osl, rfl, lk, hcd, hD, hK⟩ := F.ex
  rcases hD with ⟨_, rfl⟩ | ⟨e, _⟩
  · exact ⟨fun s us ws _ l1 l2 => .of_eq (h kV doc pm an cdv ct us ws l1 l2), rel⟩
  · exact absurd rfl e
/-- nothing is raised -/
abbrev noE : L2.St → XK := fun _ _ _ _ => False
theorem pass_no {σ : L2.St} : PassesAt (L2.CX X.prog X.w) X σ (noE σ) := fun pins H s e s' I c => by
  obtain ⟨a, B, h2⟩ := c
  exact (let ⟨_, _, _, z⟩ := h2; by simp_all [noE])
end
end TK

/-! promises of defs by descriptors; calls; comprehensions; raise and try -/
namespace TK
open PySem PySem.Spec PyProof.Rows L2

abbrev XP := Addr → Option (List (Str × Sc)) → Mu → Prop
/-- a contract: called with these at this store, every end is one of R or X -/
abbrev Ct := List Sc → Mu → (Sc → Mu → Prop) → XP → Prop
def SpOf (A : Ct) : Sp := fun vs H Q E => ∃ (P : Up) (μ μf : Mu) (ss : List Sc) (R : Sc → Mu → Prop) (X : XP), A ss μ R X ∧ Cf (P.and (satL ss vs)) (μ ++ μf) H ∧
  (∀ s μ' v H', R s μ' → Cf (P.and (sat s v)) (μ' ++ μf) H' → Q v H') ∧ (∀ C fs μ' d H', X C fs μ' → Cf (P.and (xat fs d)) (μ' ++ μf) H' → E (.ref C) d H')
def rho0 (N : List Str) (ss : List Sc) : Rho := ss.map some ++ List.replicate (N.length - ss.length) none
theorem sl_start {N : List Str} {ss : List Sc} {vs : List V} {I : Hp} (h : ScL I vs ss) : (Sl (L2.start N vs) (rho0 N ss)).p I := by
  have hl := ScL.length h
  unfold L2.start rho0
  refine ⟨by simp [hl], fun i s hi => ?_⟩
  by_cases hlt : i < ss.length
  · rw [List.getElem?_append_left (by simpa using hlt), List.getElem?_map] at hi
    cases e : ss[i]? with
    | none => rw [e] at hi; cases hi
    | some t =>
      rw [e] at hi
      have e2 : t = s := Option.some.inj (Option.some.inj hi)
      subst e2
      obtain ⟨x, hx, hs⟩ := h.get' e
      exact ⟨x, by rw [List.getElem?_append_left (by simpa [hl] using hlt), List.getElem?_map, hx]; rfl, hs⟩
  · rw [List.getElem?_append_right (by simpa using hlt)] at hi
    rw [List.getElem?_replicate] at hi
    split at hi <;> cases hi
/-- no way on -/
abbrev noP : PN := fun _ _ => False
section
variable {P : Program} {w : World} {K : PySem.W.Frag} {mg : Str → Option Value} {base : Heap} {x qual : Str} {params : Arguments} {body : List Stmt} {scope : Scope} {dvs : List V} {kws : List (Str × V)} {f : Addr} {fd : FuncData}
/-- what a def's body has to keep -/
def BodyOk (N : List Str) (A : Ct) (E : XK) (t : TS) : Prop := ∀ (P0 : Up) (μ μf : Mu) (ss : List Sc) (R : Sc → Mu → Prop) (X : XP), A ss μ R X →
  (∀ C fs μ' d H', X C fs μ' → Cf (P0.and (xat fs d)) (μ' ++ μf) H' → E (.ref C) d H') → Sat ⟨P0, μf⟩ (rho0 N ss) μ t (fun _ μ' => R N0 μ') R noP noP
/-- THE RULE for a def -/
theorem fn_ok {N ps : List Str} {k : Nat} {A : Ct} (F : FunD K x qual params body scope dvs kws f fd) (S : FnScope N ps scope) (len : ∀ ss μ R X, A ss μ R X → ss.length = ps.length)
    (hbody : ∀ (cdv : Value) (Ar : Around) (outer : List Env) (s : Shared) (H : Hp) (E : XK), Room k (Ar.deeper (envOfC qual scope s.heap.objs.size f cdv)) →
      ∃ t, PSs (cxOf (L2.CX P w) P w K mg base N qual scope f cdv Ar outer s H E) body t ∧ BodyOk N A E t) :
    FnOk P w K mg base (L2.CX P w) (k + 1) f fd ps (SpOf A) := by
  refine F.ok S (fun vs H Q E h => ?_) (fun cdv Ar outer s H vs Q E hr h => ?_)
  · obtain ⟨P0, μ, μf, ss, R, X, hA, c, _⟩ := h
    rw [ScL.length c.at.2]
    exact len _ _ _ _ hA
  · obtain ⟨t, hp, hb⟩ := hbody cdv Ar outer s H E hr
    refine ⟨t, hp, ?_⟩
    obtain ⟨P0, μ, μf, ss, R, X, hA, c, hR, hX⟩ := h
    refine hb P0 μ μf ss R X hA hX P0 μf ⟨Up.le.refl _, [], rfl⟩ (L2.start N vs) H _ (c.le fun I z => ⟨z.1, sl_start z.2⟩) ?_ (fun s μ' v H' h' c' => hR s μ' v H' h' c') (fun _ _ _ _ z => z.elim) (fun _ _ _ _ z => z.elim)
    exact fun ρ' μ' σ' H' h' c' => hR N0 μ' .non H' h' (c'.le fun I z => ⟨z.1, .non⟩)
end

/-! ### a named def, as it may be called -/
def permL {α : Type} (π : List Nat) (d : α) (xs : List α) : List α := π.map fun i => xs.getD i d
theorem vals_perm {vs : List V} {us : List Value} (r : Vals vs us) : ∀ π : List Nat, Vals (permL π .non vs) (permL π .none us)
  | [] => .nil
  | i :: π => by
    refine .cons ?_ (vals_perm r π)
    show RelV (vs.getD i .non) (us.getD i .none)
    rw [List.getD_eq_getElem?_getD, List.getD_eq_getElem?_getD]
    cases e : vs[i]? with
    | none => rw [r.none_of e]; rfl
    | some v =>
      obtain ⟨u, e2, r2⟩ := r.get e
      rw [e2]; exact r2
theorem scL_perm {I : Hp} {vs : List V} {ss : List Sc} (r : ScL I vs ss) : ∀ π : List Nat, ScL I (permL π .non vs) (permL π N0 ss)
  | [] => .nil
  | i :: π => by
    refine .cons ?_ (scL_perm r π)
    show Sc.p (ss.getD i N0) I (vs.getD i .non)
    rw [List.getD_eq_getElem?_getD, List.getD_eq_getElem?_getD]
    cases e : vs[i]? with
    | none =>
      have : ss[i]? = none := by
        have h1 := List.getElem?_eq_none_iff.mp e
        exact List.getElem?_eq_none_iff.mpr (by rw [← ScL.length r]; exact h1)
      rw [this]; exact .non
    | some v =>
      obtain ⟨s, e2, r2⟩ := r.get e
      rw [e2]; exact r2
def Fnk (P : Program) (w : World) (K : PySem.W.Frag) (mg : Str → Option Value) (base : Heap) (k n : Nat) (x : Str) (ks : List Str) (A : Ct) : Prop := ∃ f, mg x = some (.ref f) ∧ Callee P w K mg base k n ks f (SpOf A)
section
variable {P : Program} {w : World} {K : PySem.W.Frag} {mg : Str → Option Value} {base : Heap} {x qual : Str} {params : Arguments} {body : List Stmt} {scope : Scope} {kws : List (Str × V)} {f : Addr} {fd : FuncData} {ps : List Str} {k n : Nat} {A : Ct}
/-- every way of a call: π tells where each parameter's value stands among those written -/
theorem callee_of (F : FunD K x qual params body scope [] kws f fd) (G : FnOk P w K mg base (L2.CX P w) k f fd ps (SpOf A)) (ks : List Str) (π : List Nat)
    (h : ∀ (kV doc pm : Value) (an : Option Addr) (cdv ct : Value) (us ws : List Value), us.length = n → ws.length = ks.length → bindArgs (PySem.W.fnOf x qual params body scope .none kV doc pm an cdv ct) ⟨us, ks.zip ws⟩ = pure (ps.zip (permL π .none (us ++ ws)))) :
    Callee P w K mg base k n ks f (SpOf fun ss => A (permL π N0 ss)) := by
  refine ⟨fd, ps, fun us ws => permL π .none (us ++ ws), fun vs zs => permL π .non (vs ++ zs), SpOf A, G, F.kp, kbN F h fun r1 r2 => vals_perm (r1.append r2) π, fun vs zs H Q E _ _ hs => ?_⟩
  obtain ⟨P0, μ, μf, ss, R, X, hA, c, hR, hX⟩ := hs
  exact ⟨P0, μ, μf, permL π N0 ss, R, X, hA, c.le fun I z => ⟨z.1, scL_perm z.2 π⟩, hR, hX⟩
end

section
variable {X : Cx} {n k j : Nat} {ks : List Str} {A : Ct} {E : L2.St → XK} {x : Str} {p pos : Pos} {e : Expr} {es : List Expr} {kws : List Keyword} {t tk : TA}
theorem Callee.lift {P : Program} {w : World} {K : PySem.W.Frag} {mg : Str → Option Value} {base : Heap} {f : Addr} {sp : Sp} (c : Callee P w K mg base k n ks f sp) (h : k ≤ j) : Callee P w K mg base j n ks f sp := by
  obtain ⟨fd, ps, g, gV, sp0, F, hk, hb, hs⟩ := c.ex
  exact ⟨fd, ps, g, gV, sp0, F.mono h, hk, hb, hs⟩
theorem pe_fn (c : Fnk X.prog X.w X.K X.mg X.base k n x ks A) (hr : Room j X.A) (hj : k ≤ j) (hg : Gl X x) (hx : ∀ σ, PassesAt (L2.CX X.prog X.w) X σ (E σ)) (ha : PA X (e :: es) t) (hkw : PK X kws tk)
    (hall : (backToKw pos (keywordEach kws X.env)).all (·.1.isSome) = true := by rfl) (hks : (backToKw pos (keywordEach kws X.env)).filterMap (·.1) = ks := by rfl)
    (hdb : (x == ("__debug__" : Str)) = false := by decide) (he : starEach (e :: es) X.env = (false, eval e X.env) :: starEach es X.env := by rfl)
    (hpl : ((backTo pos (starEach (e :: es) X.env)).any (·.1) || (backToKw pos (keywordEach kws X.env)).any (·.1.isNone)) = false := by rfl) :
    PE X (.Call (.Name x p) (e :: es) kws pos) (tCallX n ks.length (SpOf A) E t tk) := by
  obtain ⟨f, hm, c⟩ := c
  exact pe_kx (c.lift hj) hr hg hm hx ha hkw hall hks hdb he hpl
theorem pe_fn0 (c : Fnk X.prog X.w X.K X.mg X.base k 0 x ks A) (hr : Room j X.A) (hj : k ≤ j) (hg : Gl X x) (hx : ∀ σ, PassesAt (L2.CX X.prog X.w) X σ (E σ)) (hkw : PK X kws tk)
    (hall : (backToKw pos (keywordEach kws X.env)).all (·.1.isSome) = true := by rfl) (hks : (backToKw pos (keywordEach kws X.env)).filterMap (·.1) = ks := by rfl) (hdb : (x == ("__debug__" : Str)) = false := by decide)
    (hpl : ((backTo pos (starEach [] X.env)).any (·.1) || (backToKw pos (keywordEach kws X.env)).any (·.1.isNone)) = false := by rfl) :
    PE X (.Call (.Name x p) [] kws pos) (tCallX 0 ks.length (SpOf A) E tNil tk) := by
  obtain ⟨f, hm, c⟩ := c
  exact pe_kx0 (c.lift hj) hr hg hm hx hkw hall hks hdb hpl
end

section
variable {F : Fr} {ρ : Rho} {μ : Mu} {te ta tb tc : TE} {tt : TT} {Φ : Sc → Mu → Prop} {N : PN} {R : Sc → Mu → Prop} {B C : PN}
theorem Cf.sub {P : Up} {μ μ' : Mu} {H : Hp} (c : Cf P μ H) (h : μ'.Sublist μ) : Cf P μ' H := by
  obtain ⟨I, c⟩ := c
  exact ⟨I, c.ex, c.up, List.Sublist.nodup (h.map _) c.nd, fun q hq => c.mu q (h.subset hq)⟩
theorem Cf.perm {P : Up} {μ μ' : Mu} {H : Hp} (c : Cf P μ H) (h : μ'.Perm μ) : Cf P μ' H := by
  obtain ⟨I, c⟩ := c
  exact ⟨I, c.ex, c.up, ((h.map (·.1)).nodup_iff).mpr c.nd, fun q hq => c.mu q (h.mem_iff.mp hq)⟩
theorem sub_base {μ' μx μb : Mu} : (μ' ++ μb).Sublist (μ' ++ (μx ++ μb)) := List.Sublist.append (List.Sublist.refl _) (List.sublist_append_right _ _)
/-- a call; what it may raise is told to E -/
theorem ev_callE {n m : Nat} {A : Ct} {E : L2.St → XK} {t tk : TA} (X : XP) (hX : ∀ σ C fs μ' d H', X C fs μ' → Cf ((F.up.and (Sl σ ρ)).and (xat fs d)) (μ' ++ F.mu) H' → E σ (.ref C) d H')
    (h : EvA F ρ μ t fun ss μ1 => EvA F ρ μ1 tk fun zs μ2 => ss.length = n ∧ zs.length = m ∧ A (ss ++ zs) μ2 Φ X) : EvM F ρ μ (tCallX n m (SpOf A) E t tk) Φ := fun P μf hP σ H Q c k =>
  h P μf hP σ H _ c fun ss μ1 vs H1 h1 c1 =>
    h1 (P.and (satL ss vs)) μf (le_l hP) σ H1 _ (c1.le fun I z => ⟨⟨z.1.1, z.2⟩, z.1.2⟩) fun zs μ2 us H2 h2 c2 => by
      obtain ⟨l1, l2, hA⟩ := h2
      refine ⟨(ScL.length c2.at.1.1.2).trans l1, (ScL.length c2.at.2).trans l2, P.and (Sl σ ρ), μ2, μf, ss ++ zs, Φ, X, hA, c2.le fun I z => ⟨⟨z.1.1.1, z.1.2⟩, ScL.append z.1.1.2 z.2⟩, k, fun C fs μ' d H' x' c' => ?_⟩
      obtain ⟨hP1, μx, rfl⟩ := hP
      exact hX σ C fs μ' d H' x' ((c'.le (F := (F.up.and (Sl σ ρ)).and (xat fs d)) fun I z => ⟨⟨hP1 I z.1.1, z.1.2⟩, z.2⟩).sub sub_base)
theorem ev_call {n m : Nat} {A : Ct} {t tk : TA} (h : EvA F ρ μ t fun ss μ1 => EvA F ρ μ1 tk fun zs μ2 => ss.length = n ∧ zs.length = m ∧ A (ss ++ zs) μ2 Φ (fun _ _ _ => False)) : EvM F ρ μ (tCallX n m (SpOf A) noE t tk) Φ :=
  ev_callE (fun _ _ _ => False) (fun _ _ _ _ _ _ z => z.elim) h
/-- of a local name -/
theorem ev_callLE {i n m : Nat} {S : Addr → Sp → Prop} {E : L2.St → XK} {t tk : TA} {f : Addr} {A : Ct} (X : XP) (hX : ∀ σ C fs μ' d H', X C fs μ' → Cf ((F.up.and (Sl σ ρ)).and (xat fs d)) (μ' ++ F.mu) H' → E σ (.ref C) d H') (hf : ρ[i]? = some (some (.v (.ref f)))) (hS : S f (SpOf A))
    (h : EvA F ρ μ t fun ss μ1 => EvA F ρ μ1 tk fun zs μ2 => ss.length = n ∧ zs.length = m ∧ A (ss ++ zs) μ2 Φ X) : EvM F ρ μ (tCallLX i n m S E t tk) Φ := fun P μf hP σ H Q c k => by
  obtain ⟨u, e1, e2⟩ := c.at.2.2 i _ hf
  have e3 : u = .ref f := e2
  subst e3
  exact ⟨f, SpOf A, e1, hS, ev_callE X hX h P μf hP σ H Q c k⟩

/-! ### comprehensions -/
theorem wipe_get (σ : L2.St) : ∀ (vs : List Nat) (i : Nat), (L2.wipe σ vs)[i]? = if i ∈ vs ∧ i < σ.length then some none else σ[i]?
  | [], i => by simp [L2.wipe]
  | v :: vs, i => by
    unfold L2.wipe
    by_cases e : v = i
    · subst e
      by_cases hl : v < σ.length
      · rw [List.getElem?_set_self (by rw [L2.wipe_length]; exact hl), if_pos ⟨List.mem_cons_self, hl⟩]
      · rw [List.getElem?_eq_none (by rw [List.length_set, L2.wipe_length]; omega), if_neg (fun z => hl z.2), List.getElem?_eq_none (by omega)]
    · rw [List.getElem?_set_ne e, wipe_get σ vs i]
      have : (i ∈ v :: vs) ↔ i ∈ vs := by rw [List.mem_cons]; exact ⟨fun z => z.resolve_left fun q => e q.symm, .inr⟩
      simp only [this]
theorem wipe_set {σ : L2.St} {vs : List Nat} {j : Nat} {x : Option V} (h : j ∈ vs) : L2.wipe (σ.set j x) vs = L2.wipe σ vs := by
  apply List.ext_getElem?
  intro i
  rw [wipe_get, wipe_get, List.length_set]
  by_cases hc : i ∈ vs ∧ i < σ.length
  · rw [if_pos hc, if_pos hc]
  · rw [if_neg hc, if_neg hc]
    by_cases e : j = i
    · subst e
      have hl : ¬ j < σ.length := fun z => hc ⟨h, z⟩
      rw [List.getElem?_eq_none (by rw [List.length_set]; omega), List.getElem?_eq_none (by omega)]
    · rw [List.getElem?_set_ne e]
theorem wipe_wipe {σ : L2.St} {vs : List Nat} : L2.wipe (L2.wipe σ vs) vs = L2.wipe σ vs := by
  apply List.ext_getElem?
  intro i
  rw [wipe_get, wipe_get, L2.wipe_length]
  by_cases hc : i ∈ vs ∧ i < σ.length
  · rw [if_pos hc, if_pos hc]
  · rw [if_neg hc, if_neg hc]
/-- a target of a comprehension: only the block's own slots are stored -/
def Gc (F : Fr) (ρ : Rho) (μ : Mu) (g : TG) (s : Sc) (vs : List Nat) (Ξ : PN) : Prop := ∀ (P : Up) (μf : Mu), Fle P μf F → ∀ (σ : L2.St) (H : Hp) (v : V) (Q : L2.St → Hp → Prop), Cf ((P.and (Sl σ ρ)).and (sat s v)) (μ ++ μf) H →
  (∀ ρ' μ' σ' H', L2.wipe σ' vs = L2.wipe σ vs → Ξ ρ' μ' → Cf (P.and (Sl σ' ρ')) (μ' ++ μf) H' → Q σ' H') → g v σ H Q
def Gcs (F : Fr) (ρ : Rho) (μ : Mu) (g : TGs) (ss : List Sc) (vs : List Nat) (Ξ : PN) : Prop := ∀ (P : Up) (μf : Mu), Fle P μf F → ∀ (σ : L2.St) (H : Hp) (us : List V) (Q : L2.St → Hp → Prop), Cf ((P.and (Sl σ ρ)).and (satL ss us)) (μ ++ μf) H →
  (∀ ρ' μ' σ' H', L2.wipe σ' vs = L2.wipe σ vs → Ξ ρ' μ' → Cf (P.and (Sl σ' ρ')) (μ' ++ μf) H' → Q σ' H') → g us σ H Q
variable {Ξ : PN}
theorem gc_name {i : Nat} {s : Sc} {vs : List Nat} (hi : i ∈ vs) (q : Ξ (ρ.set i (some s)) μ) : Gc F ρ μ (gName i) s vs Ξ := fun P μf hP σ H v Q c k => k _ μ _ H (wipe_set hi) q (c.le fun I z => ⟨z.1.1, Sl.set z.1.2 z.2⟩)
theorem gcs_nil {vs : List Nat} (q : Ξ ρ μ) : Gcs F ρ μ gNil [] vs Ξ := fun P μf hP σ H us Q c k => by
  have e := satL_len c.at.2
  match us, e with
  | [], _ => exact ⟨rfl, k ρ μ σ H rfl q (c.le Up.and_l)⟩
theorem gcs_cons {g : TG} {gs : TGs} {s : Sc} {ss : List Sc} {vs : List Nat} (h : Gc F ρ μ g s vs fun ρ1 μ1 => Gcs F ρ1 μ1 gs ss vs Ξ) : Gcs F ρ μ (gCons g gs) (s :: ss) vs Ξ := fun P μf hP σ H us Q c k => by
  have e := satL_len c.at.2
  match us, e with
  | v :: us, _ =>
    refine ⟨v, us, rfl, h (P.and (satL ss us)) μf (le_l hP) σ H v _ (c.le fun I z => ?_) fun ρ1 μ1 σ1 H1 w1 h1 c1 => h1 P μf hP σ1 H1 us Q (c1.le fun I z => ⟨⟨z.1.1, z.2⟩, z.1.2⟩) fun ρ' μ' σ' H' w2 => k ρ' μ' σ' H' (w2.trans w1)⟩
    have z2 : ScL I (v :: us) (s :: ss) := z.2
    cases z2 with
    | cons z3 z4 => exact ⟨⟨⟨z.1.1, z4⟩, z.1.2⟩, z3⟩
theorem gc_tup {K : PySem.W.Frag} {n : Nat} {gs : TGs} {ds : List PyData} {vs : List Nat} (hn : ds.length = n) (h : Gcs F ρ μ gs (ds.map Sc.d) vs Ξ) : Gc F ρ μ (gTup K n gs) (.d (.tuple ds)) vs Ξ := fun P μf hP σ H v Q c k => by
  obtain ⟨I, c⟩ := c
  obtain ⟨a, xs, rfl, h1, h2⟩ := dq_tup c.up.2
  refine ⟨a, xs, rfl, SqT.of (c.ex _ _ h1), h2.length.trans hn, h P μf hP σ H xs Q ⟨I, c.ex, ⟨c.up.1, satL_of_data h2⟩, c.nd, c.mu⟩ k⟩
theorem ev_lcM {wi : TI} {g : TG} {vs : List Nat} (h : EvI F ρ μ wi fun ds μ1 => ds.length ≤ 16777216 ∧ ∃ Iv : Nat → List Sc → Mu → Prop, Iv 0 [] μ1 ∧
      (∀ i s acc μ', ds[i]? = some s → Iv i acc μ' → Gc F (wipeR ρ vs) μ' g s vs fun ρ2 μ2 => EvT F ρ2 μ2 tt fun b μ3 => (b = true → EvM F ρ2 μ3 te fun s' μ4 => Iv (i + 1) (acc ++ [s']) μ4) ∧ (b = false → Iv (i + 1) acc μ3)) ∧
      ∀ acc μ', Iv ds.length acc μ' → (∀ p, Φ (.v (.ref p)) ((p, .lst acc) :: μ')) ∨ ∃ l, acc = l.map Sc.d ∧ Φ (.d (.list l)) μ') : EvM F ρ μ (tLc wi g tt te vs) Φ := fun P μf hP σ H Q c k => by
  refine h P μf hP σ H _ c fun ds μ1 H1 J P2 h1 hP2 c1 hJ => ?_
  obtain ⟨hz, Iv, i0, hs, hd⟩ := h1
  intro D hD
  refine ⟨fun i m H => m = ds.length - i ∧ i ≤ ds.length ∧ ∃ acc μ', acc.length ≤ i ∧ Iv i acc μ' ∧ Cf (P2.and (Sl σ ρ)) (μ' ++ ((D, MO.lst acc) :: μf)) H, ⟨_, rfl, Nat.zero_le _, [], μ1, Nat.le_refl _, i0, ?_⟩, ?_⟩
  · refine (c1.newM (m := MO.lst []) hD fun I e z => ⟨[], upd_same, .nil⟩).perm ?_
    exact List.perm_middle
  rintro i m H2 ⟨rfl, hi, acc, μ2, hl, i2, c2⟩
  have jw := hJ (P2.and (Sl σ ρ)) Up.and_l (μ2 ++ ((D, MO.lst acc) :: μf)) H2 c2 i
  cases e : ds[i]? with
  | none =>
    have hi' : i = ds.length := by have := List.getElem?_eq_none_iff.mp e; omega
    subst hi'
    refine .inl ⟨jw.2 e, ?_⟩
    rcases hd acc μ2 i2 with q | ⟨l, rfl, q⟩
    · exact k _ _ _ H2 (q D) ((c2.perm (μ' := ((D, MO.lst acc) :: μ2) ++ μf) List.perm_middle.symm).le fun I z => ⟨⟨hP2 I z.1, z.2⟩, rfl⟩)
    · refine k _ _ _ H2 q ?_
      have hk : (μ2 ++ ((D, MO.lst (l.map Sc.d)) :: μf))[μ2.length]? = some (D, MO.lst (l.map Sc.d)) := by
        rw [List.getElem?_append_right (Nat.le_refl _), Nat.sub_self]; rfl
      have c3 := c2.freeze (F := sat (.d (.list l)) (.ref D)) hk fun I o hI ho z hm => by
        obtain ⟨us, e1, e2⟩ := hm
        rw [ho] at e1; cases e1
        exact Dq.lst upd_same (dqAll_mono (Ex.new hI) _ _ (satL_data e2))
      have e4 : (μ2 ++ ((D, MO.lst (l.map Sc.d)) :: μf)).eraseIdx μ2.length = μ2 ++ μf := by
        rw [List.eraseIdx_append_of_length_le (Nat.le_refl _), Nat.sub_self]; rfl
      rw [e4] at c3
      exact c3.le fun I z => ⟨⟨hP2 I z.1.1, z.1.2⟩, z.2⟩
  | some s =>
    have hlt : i < ds.length := (List.getElem?_eq_some_iff.mp e).1
    obtain ⟨go, yl⟩ := jw.1 s e
    refine .inr ⟨go, fun H' => ∃ acc μ', acc.length ≤ i + 1 ∧ Iv (i + 1) acc μ' ∧ Cf (P2.and (Sl σ ρ)) (μ' ++ ((D, MO.lst acc) :: μf)) H', fun H' z => ⟨ds.length - (i + 1), by omega, rfl, hlt, z⟩, fun x H' y => ?_⟩
    have hF : Fle (P2.and (Sl σ ρ)) ((D, MO.lst acc) :: μf) F := by
      obtain ⟨q1, μx, q2⟩ := hP
      exact ⟨fun I z => q1 I (hP2 I z.1), (D, MO.lst acc) :: μx, by rw [q2]; rfl⟩
    refine hs i s acc μ2 e i2 (P2.and (Sl σ ρ)) _ hF (L2.wipe σ vs) H' x _ ((yl x H' y).le fun I z => ⟨⟨z.1, Sl.wipe z.1.2 vs⟩, z.2⟩) fun ρ3 μ3 σ3 H3 w3 h3 c3 => ?_
    refine ⟨w3.trans wipe_wipe, h3 (P2.and (Sl σ ρ)) _ hF σ3 H3 _ c3 fun b μ4 H4 h4 c4 => ?_⟩
    cases b with
    | false => exact ⟨acc, μ4, by omega, h4.2 rfl, c4.le fun I z => z.1⟩
    | true =>
      refine h4.1 rfl (P2.and (Sl σ ρ)) _ hF σ3 H4 _ c4 fun s' μ5 v H5 h5 c5 => ?_
      have hk : (μ5 ++ ((D, MO.lst acc) :: μf))[μ5.length]? = some (D, MO.lst acc) := by
        rw [List.getElem?_append_right (Nat.le_refl _), Nat.sub_self]; rfl
      obtain ⟨J2, ee1, ee2, ee3, us, g1, g2⟩ := c5.get hk
      refine ⟨us, g1, by rw [ScL.length g2, sizeLine_eq]; omega, acc ++ [s'], μ5, by rw [List.length_append]; show acc.length + 1 ≤ i + 1; omega, h5, ?_⟩
      have c6 := c5.set (m' := MO.lst (acc ++ [s'])) (o := .lst (us ++ [v])) hk fun I e1 z hm1 => by
        obtain ⟨us', e2, e3⟩ := hm1
        have e4 : us' = us := by rw [g1] at e2; cases e2; rfl
        subst e4
        exact ⟨_, upd_same, ScL.append e3 (.cons z.2 .nil)⟩
      have e7 : (μ5 ++ ((D, MO.lst acc) :: μf)).set μ5.length (D, MO.lst (acc ++ [s'])) = μ5 ++ ((D, MO.lst (acc ++ [s'])) :: μf) := by
        rw [List.set_append_right _ _ (Nat.le_refl _), Nat.sub_self]; rfl
      rw [e7] at c6
      exact c6.le fun I z => z.1.1
end
end TK

/-! sequences of anything; isinstance; raise, try, the fields of errors; what is let go -/
namespace TK
open PySem PySem.Spec PyProof.Rows L2

/-- less of what is at hand, in any order -/
def Sub (μ'' μ' : Mu) : Prop := ∃ l : Mu, μ''.Perm l ∧ l.Sublist μ'
/-! ### sequences whose items are told one by one -/
def tupS (ss : List Sc) : Sc := .u fun v => ⟨fun I => ∃ a xs, v = .ref a ∧ I a = some (.tup xs) ∧ ScL I xs ss, fun e h => by
  obtain ⟨a, xs, h1, h2, h3⟩ := h
  exact ⟨a, xs, h1, e _ _ h2, ScL.mono e h3⟩⟩
def lstS (ss : List Sc) : Sc := .u fun v => ⟨fun I => ∃ a xs, v = .ref a ∧ I a = some (.lst xs) ∧ ScL I xs ss, fun e h => by
  obtain ⟨a, xs, h1, h2, h3⟩ := h
  exact ⟨a, xs, h1, e _ _ h2, ScL.mono e h3⟩⟩
theorem lstS_data {ds : List PyData} {I : Hp} {v : V} : (lstS (ds.map Sc.d)).p I v ↔ (Sc.d (.list ds)).p I v := by
  constructor
  · rintro ⟨a, xs, rfl, h2, h3⟩; exact .lst h2 (satL_data h3)
  · intro h
    obtain ⟨a, xs, rfl, h1, h2⟩ := dq_lst h
    exact ⟨a, xs, rfl, h1, satL_of_data h2⟩
theorem tupS_data {ds : List PyData} {I : Hp} {v : V} : (tupS (ds.map Sc.d)).p I v ↔ (Sc.d (.tuple ds)).p I v := by
  constructor
  · rintro ⟨a, xs, rfl, h2, h3⟩; exact .tup h2 (satL_data h3)
  · intro h
    obtain ⟨a, xs, rfl, h1, h2⟩ := dq_tup h
    exact ⟨a, xs, rfl, h1, satL_of_data h2⟩
section
variable {F : Fr} {ρ : Rho} {μ : Mu} {te ta tb tc : TE} {tt : TT} {Φ : Sc → Mu → Prop} {N : PN} {R : Sc → Mu → Prop} {B C : PN}
theorem ev_tupS {t : TA} (h : EvA F ρ μ t fun ss μ1 => ss.length ≤ 16777216 ∧ Φ (tupS ss) μ1) : EvM F ρ μ (tTup t) Φ := fun P μf hP σ H Q c k =>
  h P μf hP σ H _ c fun ss μ1 vs H1 h1 c1 => by
    have hl := satL_len c1.at.2
    refine ⟨sz_of (by omega), fun p hp => k _ μ1 _ _ h1.2 ?_⟩
    exact (c1.new (F := sat (tupS ss) (.ref p)) hp fun I e z => ⟨p, vs, rfl, upd_same, ScL.mono (Ex.new (e.back hp)) z.2⟩).le fun I z => ⟨z.1.1, z.2⟩
theorem ev_lstS {t : TA} (h : EvA F ρ μ t fun ss μ1 => ss.length ≤ 16777216 ∧ Φ (lstS ss) μ1) : EvM F ρ μ (tLst t) Φ := fun P μf hP σ H Q c k =>
  h P μf hP σ H _ c fun ss μ1 vs H1 h1 c1 => by
    have hl := satL_len c1.at.2
    refine ⟨sz_of (by omega), fun p hp => k _ μ1 _ _ h1.2 ?_⟩
    exact (c1.new (F := sat (lstS ss) (.ref p)) hp fun I e z => ⟨p, vs, rfl, upd_same, ScL.mono (Ex.new (e.back hp)) z.2⟩).le fun I z => ⟨z.1.1, z.2⟩
theorem ro_ixLS {K : PySem.W.Frag} {ss : List Sc} {i : Int} {s : Sc} (hi : atI ss i = some s) (q : Φ s μ) : RO F μ (rIxL K) (lstS ss) (I i) Φ := fun P μf hP H x y Q c k => by
  obtain ⟨J, c⟩ := c
  obtain ⟨a, xs, rfl, h1, h2⟩ := c.up.1.2
  obtain ⟨v, hv, hd⟩ := scL_at h2 hi
  exact ⟨a, xs, i, v, rfl, dq_int c.up.2, SqL.of (c.ex _ _ h1), hv, k _ μ _ H q ⟨J, c.ex, ⟨c.up.1.1, hd⟩, c.nd, c.mu⟩⟩
theorem ro_ixTS {K : PySem.W.Frag} {ss : List Sc} {i : Int} {s : Sc} (hi : atI ss i = some s) (q : Φ s μ) : RO F μ (rIxT K) (tupS ss) (I i) Φ := fun P μf hP H x y Q c k => by
  obtain ⟨J, c⟩ := c
  obtain ⟨a, xs, rfl, h1, h2⟩ := c.up.1.2
  obtain ⟨v, hv, hd⟩ := scL_at h2 hi
  exact ⟨a, xs, i, v, rfl, dq_int c.up.2, SqT.of (c.ex _ _ h1), hv, k _ μ _ H q ⟨J, c.ex, ⟨c.up.1.1, hd⟩, c.nd, c.mu⟩⟩
theorem gt_tupS {K : PySem.W.Frag} {n : Nat} {gs : TGs} {ss : List Sc} {Ξ : PN} (hn : ss.length = n) (h : Gts F ρ μ gs ss Ξ) : Gt F ρ μ (gTup K n gs) (tupS ss) Ξ := fun P μf hP σ H v Q c k => by
  obtain ⟨I, c⟩ := c
  obtain ⟨a, xs, rfl, h1, h2⟩ := c.up.2
  refine ⟨a, xs, rfl, SqT.of (c.ex _ _ h1), (ScL.length h2).trans hn, h P μf hP σ H xs Q ⟨I, c.ex, ⟨c.up.1, h2⟩, c.nd, c.mu⟩ k⟩
theorem ei_lstS {K : PySem.W.Frag} {tl : TE} {Υ : List Sc → Mu → Prop} (h : EvM F ρ μ tl fun s μ1 => ∃ ss, s = lstS ss ∧ Υ ss μ1) : EvI F ρ μ (iList K tl) Υ := fun P μf hP σ H Rr c k =>
  h P μf hP σ H _ c fun s μ1 v H1 h1 c1 => by
    obtain ⟨ds, rfl, h1⟩ := h1
    obtain ⟨a, xs, rfl, e1, e2⟩ := c1.at.2
    refine ⟨a, rfl, ⟨xs, SqL.of e1⟩, k ds μ1 H1 (Itl K a) (P.and (sat (lstS ds) (.ref a))) h1 Up.and_l (c1.le fun I z => ⟨⟨z.1.1, z.2⟩, z.1.2⟩) fun P' hP' μ' H' c' i => ?_⟩
    obtain ⟨I, c'⟩ := c'
    obtain ⟨a', ys, ea, f1, f2⟩ := (hP' I c'.up).2
    cases ea
    have f3 := c'.ex _ _ f1
    refine ⟨fun s hs => ?_, fun hn => ⟨ys, SqL.of f3, ?_⟩⟩
    · obtain ⟨x, hx, hq⟩ := f2.get' hs
      refine ⟨⟨ys, x, SqL.of f3, hx⟩, fun x' H'' y => ?_⟩
      obtain ⟨rfl, y⟩ := y
      have ex : x = x' := Option.some.inj (hx.symm.trans (y ys (SqL.of f3)))
      subst ex
      exact ⟨I, c'.ex, ⟨c'.up, hq⟩, c'.nd, c'.mu⟩
    · have := ScL.length f2
      have := List.getElem?_eq_none_iff.mp hn
      omega

/-! ### what is at hand is let go; what is no longer asked is forgotten -/
theorem ev_le (h : EvM F ρ μ te fun s μ' => ∃ μ'', Sub μ'' μ' ∧ Φ s μ'') : EvM F ρ μ te Φ := fun P μf hP σ H Q c k =>
  h P μf hP σ H Q c fun s μ' v H' h1 c1 => by
    obtain ⟨μ'', ⟨l, hp, hs⟩, q⟩ := h1
    exact k s μ'' v H' q ((c1.sub (List.Sublist.append hs (List.Sublist.refl μf))).perm (hp.append_right μf))
theorem st_le {t : TS} {μ'' : Mu} (hμ : Sub μ'' μ) (h : Sat F ρ μ'' t N R B C) : Sat F ρ μ t N R B C := fun P μf hP σ H D c =>
  h P μf hP σ H D (let ⟨l, hp, hs⟩ := hμ; (c.sub (List.Sublist.append hs (List.Sublist.refl μf))).perm (hp.append_right μf))
/-- slots told otherwise: the same, or less -/
theorem st_rho {t : TS} {ρ' : Rho} (hl : ρ'.length = ρ.length) (hf : ∀ (i : Nat) (s : Sc), ρ'[i]? = some (some s) → ρ[i]? = some (some s)) (h : Sat F ρ' μ t N R B C) : Sat F ρ μ t N R B C := fun P μf hP σ H D c =>
  h P μf hP σ H D (c.le fun I z => ⟨z.1, Sl.forget z.2 hl hf⟩)
/-- a list at hand stays as it is from now on -/
theorem st_freeze {t : TS} {i k : Nat} {p : Addr} {l : List PyData} (hk : μ[k]? = some (p, MO.lst (l.map Sc.d))) (hi : ρ[i]? = some (some (.v (.ref p)))) (h : Sat F (ρ.set i (some (.d (.list l)))) (μ.eraseIdx k) t N R B C) : Sat F ρ μ t N R B C := fun P μf hP σ H D c => by
  have c3 := c.freeze (F := sat (.d (.list l)) (.ref p)) (ix_left hk) fun I o hI ho z hm => by
    obtain ⟨us, e1, e2⟩ := hm
    rw [ho] at e1; cases e1
    exact Dq.lst upd_same (dqAll_mono (Ex.new hI) _ _ (satL_data e2))
  rw [List.eraseIdx_append_of_lt_length (List.getElem?_eq_some_iff.mp hk).1] at c3
  refine h P μf hP σ H D (c3.le fun I z => ⟨z.1.1, ⟨by rw [List.length_set]; exact z.1.2.1, fun j s hj => ?_⟩⟩)
  by_cases e : i = j
  · subst e
    have hlt : i < ρ.length := (List.getElem?_eq_some_iff.mp hi).1
    rw [List.getElem?_set_self hlt] at hj
    have e2 : Sc.d (.list l) = s := Option.some.inj (Option.some.inj hj)
    subst e2
    obtain ⟨u, h1, h2⟩ := z.1.2.2 i _ hi
    have h3 : u = .ref p := h2
    subst h3
    exact ⟨_, h1, z.2⟩
  · rw [List.getElem?_set_ne e] at hj
    exact z.1.2.2 j s hj
/-- an expression whose answer is a list at hand that stays as it is from now on -/
theorem ev_freeze (h : EvM F ρ μ te fun s μ' => ∃ (p : Addr) (k : Nat) (l : List PyData), s = .v (.ref p) ∧ μ'[k]? = some (p, MO.lst (l.map Sc.d)) ∧ Φ (.d (.list l)) (μ'.eraseIdx k)) : EvM F ρ μ te Φ := fun P μf hP σ H Q c k =>
  h P μf hP σ H Q c fun s μ' v H' h1 c1 => by
    obtain ⟨p, n, l, rfl, hk, q⟩ := h1
    have ev : v = .ref p := c1.at.2
    subst ev
    have c3 := c1.freeze (F := sat (.d (.list l)) (.ref p)) (ix_left hk) fun I o hI ho z hm => by
      obtain ⟨us, e1, e2⟩ := hm
      rw [ho] at e1; cases e1
      exact Dq.lst upd_same (dqAll_mono (Ex.new hI) _ _ (satL_data e2))
    rw [List.eraseIdx_append_of_lt_length (List.getElem?_eq_some_iff.mp hk).1] at c3
    exact k _ _ _ H' q (c3.le fun I z => ⟨z.1.1, z.2⟩)

/-! ### further operations -/
theorem ro_repS {l : List Nat} {n : Int} (h1 : -(2 ^ 63) ≤ n) (h2 : n < 2 ^ 63) (h : l.length * n.toNat ≤ 16777216) (q : Φ (T (List.replicate n.toNat l).flatten) μ) : RO F μ rRepS (T l) (I n) Φ := fun P μf hP H x y Q c k =>
  ⟨Tx l, n, dq_str c.at.1.2, dq_int c.at.2, h1, h2, by rw [tx_len]; exact h, k _ μ _ H q ((c.le Up.and_l).le fun I z => ⟨z.1, .str _⟩)⟩
theorem ev_revS (h : EvM F ρ μ te fun s μ1 => ∃ l, s = T l ∧ l.length ≤ 16777216 ∧ Φ (T l.reverse) μ1) : EvM F ρ μ (tRevS te) Φ := fun P μf hP σ H Q c k =>
  h P μf hP σ H _ c fun s μ1 v H1 h1 c1 => by
    obtain ⟨l, rfl, hl, q⟩ := h1
    exact ⟨Tx l, dq_str c1.at.2, by rw [tx_len]; exact hl, k _ μ1 _ H1 q (cf_add (c1.le Up.and_l) fun _ _ => .str _)⟩
theorem rm_swapcase {l l' : List Nat} (h : l.length ≤ 5592405) (e : Txt.swapcase (Tx l) = Tx l') (q : Φ (T l') μ) : RM F μ (fun x xs H Q => ∃ a, x = .str a ∧ xs = [] ∧ a.length ≤ 5592405 ∧ Q (.str (Txt.swapcase a)) H) (T l) [] Φ := fun P μf hP H x xs Q c k => by
  have ez := scL0 c.at.2
  subst ez
  refine ⟨Tx l, dq_str c.at.1.2, rfl, by rw [tx_len]; exact h, ?_⟩
  rw [e]
  exact k _ μ _ H q ((c.le Up.and_l).le fun I z => ⟨z.1, .str _⟩)
/-- the name of a value's type -/
def tyN : PyData → String
  | .none => "NoneType" | .bool _ => "bool" | .int _ => "int" | .str _ => "str" | .list _ => "list" | .tuple _ => "tuple" | .dict _ => "dict"
theorem tyX_d {K : PySem.W.Frag} {H : Hp} {v : V} {d : PyData} (h : Dq H v d) : TyX K H v (.type (tyN d)) := by
  cases d with
  | none => rw [dq_non h]; exact .base .non
  | bool b => rw [dq_bl h]; exact .base (.bl b)
  | int b => rw [dq_int h]; exact .base (.int b)
  | str b => rw [dq_str h]; exact .base (.str b)
  | list ds => obtain ⟨a, xs, rfl, h1, _⟩ := dq_lst h; exact .base (.lst h1)
  | tuple ds => obtain ⟨a, xs, rfl, h1, _⟩ := dq_tup h; exact .base (.tup h1)
  | dict kv => cases h
/-- what type a value has -/
def TyM (μ : Mu) (n : String) : Sc → Prop
  | .d d => n = tyN d
  | .v (.ref p) => (n = "list" ∧ ∃ (k : Nat) (ss : List Sc), μ[k]? = some (p, MO.lst ss)) ∨ (n = "dict" ∧ ∃ (k : Nat) (ss : List (Key × Sc)), μ[k]? = some (p, MO.dic ss))
  | _ => False
theorem tyM_ok {K : PySem.W.Frag} {s : Sc} {P : Up} {n : String} {H : Hp} {v : V} {μf : Mu} (h : TyM μ n s) (c : Cf (P.and (sat s v)) (μ ++ μf) H) : TyX K H v (.type n) := by
  cases s with
  | u U => exact h.elim
  | d x =>
    have e : n = tyN x := h
    subst e
    exact tyX_d c.at.2
  | v x =>
    cases x with
    | ref p =>
      have e : v = .ref p := c.at.2
      subst e
      rcases h with ⟨rfl, k, ss, hk⟩ | ⟨rfl, k, ss, hk⟩
      · obtain ⟨I, e1, _, _, us, e3, _⟩ := c.get (ix_left hk)
        exact .base (.lst e3)
      · obtain ⟨I, e1, _, _, us, e3, _⟩ := c.get (ix_left hk)
        exact .base (.dK e3)
    | _ => exact h.elim
theorem rc_isi {K : PySem.W.Frag} {s : Sc} {n m : String} {b : Bool} (hs : TyM μ n s) (h : kitB n m = some b) (q : Φ (TK.B b) μ) : RC F μ (rIsi K) [s, .v (.ty m)] Φ := fun P μf hP H xs Q c k => by
  obtain ⟨x, y, rfl, hx, hy⟩ := scL2 c.at.2
  have ey : y = .ty m := hy
  subst ey
  have c2 : Cf (P.and (sat s x)) (μ ++ μf) H := c.le fun I z => ⟨z.1, by
    obtain ⟨x', y', e, h1, _⟩ := scL2 z.2
    cases e; exact h1⟩
  exact ⟨x, .ty m, .type n, .type m, b, rfl, .ty m, tyM_ok hs c2, kit_ty h, k _ μ _ H q (cf_ans c fun _ _ _ => .bl _)⟩
theorem rc_isi2 {K : PySem.W.Frag} {s : Sc} {n m1 m2 : String} {b1 b2 : Bool} (hs : TyM μ n s) (h1 : kitB n m1 = some b1) (h2 : kitB n m2 = some b2) (q : Φ (TK.B (b1 || b2)) μ) : RC F μ (rIsiT K) [s, tupS [.v (.ty m1), .v (.ty m2)]] Φ := fun P μf hP H xs Q c k => by
  obtain ⟨x, y, rfl, hx, hy⟩ := scL2 c.at.2
  obtain ⟨a, zs, rfl, ha, hz⟩ := hy
  obtain ⟨z1, z2, rfl, e1, e2⟩ := scL2 hz
  have f1 : z1 = .ty m1 := e1
  have f2 : z2 = .ty m2 := e2
  subst f1 f2
  have c2 : Cf (P.and (sat s x)) (μ ++ μf) H := c.le fun I z => ⟨z.1, by
    obtain ⟨x', y', e, h1, _⟩ := scL2 z.2
    cases e; exact h1⟩
  refine ⟨x, a, [.ty m1, .ty m2], .type n, [.type m1, .type m2], b1 || b2, rfl, ha, .cons (.ty m1) (.cons (.ty m2) .nil), tyM_ok hs c2, ?_, k _ μ _ H q (cf_ans c fun _ _ _ => .bl _)⟩
  refine kitAny_cons (kit_ty h1) (fun e => ?_) (fun e => by rw [e]; rfl)
  rw [e, Bool.false_or]
  exact kitAny_cons (kit_ty h2) (fun e => by rw [e]; exact kitAny_nil) (fun e => e)

/-! ### errors -/
/-- __init__ of an error with one field -/
def spI (C : Addr) (f : Str) : Sp := fun vs H Q _ => ∃ (a : Addr) (y : V), vs = [.ref a, y] ∧ H a = some (exo a C none) ∧ ∀ d, H d = none → d ≠ a → Q .non (upd (upd H d (exd d [(f, y)])) a (exo a C (some d)))
theorem made_eq {H1 : Hp} {a d C : Addr} {fs : List (Str × V)} (ha : H1 a = none) (hd : upd H1 a (exo a C none) d = none) (hne : d ≠ a) :
    upd (L2.del (upd (upd (upd H1 a (exo a C none)) d (exd d fs)) a (exo a C (some d))) a) d (.xd fs) = upd H1 d (.xd fs) := by
  funext b
  by_cases hb : b = d
  · subst hb; rw [upd_same, upd_same]
  · rw [upd_ne hb, upd_ne hb]
    by_cases hba : b = a
    · subst hba; rw [del_same, ha]
    · rw [del_ne hba, upd_ne hba, upd_ne hb, upd_ne hba]
theorem st_raise1 {C : Addr} {f : Str} {ta : TA} {W : WX} (X : XP) (hW : ∀ fs μ' σ d H', X C fs μ' → Cf ((F.up.and (Sl σ ρ)).and (xat fs d)) (μ' ++ F.mu) H' → W (.ref C) d σ H')
    (h : EvA F ρ μ ta fun ss μ1 => ∃ s, ss = [s] ∧ X C (some [(f, s)]) μ1) {B' C' : PN} : Sat F ρ μ (fun _ σ H => tMkO C (spI C f) [] ta σ H fun cls d H' => W cls d σ H') N R B' C' := fun P μf hP σ H D c _ _ _ _ =>
  h P μf hP σ H _ c fun ss μ1 vs H1 h1 c1 => by
    obtain ⟨s, rfl, hx⟩ := h1
    obtain ⟨y, rfl, hy⟩ := scL1 c1.at.2
    refine ⟨by show 1 ≤ 1000; decide, fun a ha => ⟨a, y, rfl, upd_same, fun d hd hne => ⟨rfl, d, [(f, y)], upd_same, ?_, ?_, ?_⟩⟩⟩
    · rw [upd_ne hne, upd_same]
    · rw [upd_ne hne] at hd; exact hd
    · have hd1 : H1 d = none := by rw [upd_ne hne] at hd; exact hd
      rw [made_eq ha hd hne]
      refine hW (some [(f, s)]) μ1 σ (some d) _ hx ?_
      have c2 := c1.new (F := xat (some [(f, s)]) (some d)) (o := .xd [(f, y)]) hd1 fun I e z => ⟨[(f, y)], upd_same, .cons ⟨rfl, by
        obtain ⟨y', e2, h2⟩ := scL1 z.2
        cases e2
        exact Sc.mono (Ex.new (e.back hd1)) h2⟩ .nil⟩
      obtain ⟨hP1, μx, rfl⟩ := hP
      exact (c2.le (F := (F.up.and (Sl σ ρ)).and (xat (some [(f, s)]) (some d))) fun I z => ⟨⟨hP1 I z.1.1.1, z.1.1.2⟩, z.2⟩).sub sub_base
/-- an error without fields -/
theorem st_raise0 {C : Addr} {W : WX} (X : XP) (hW : ∀ fs μ' σ d H', X C fs μ' → Cf ((F.up.and (Sl σ ρ)).and (xat fs d)) (μ' ++ F.mu) H' → W (.ref C) d σ H') (hx : X C none μ) {B' C' : PN} :
    Sat F ρ μ (fun _ σ H => (fun (_ : L2.St) (H : Hp) (Q : XK) => Q (.ref C) none H) σ H fun cls d H' => W cls d σ H') N R B' C' := fun P μf hP σ H D c _ _ _ _ => by
  obtain ⟨hP1, μx, rfl⟩ := hP
  exact hW none μ σ none H hx ((c.le (F := (F.up.and (Sl σ ρ)).and (xat none none)) fun I z => ⟨⟨hP1 I z.1, z.2⟩, True.intro⟩).sub sub_base)
/-- the field of an error in hand -/
theorem ev_xf {a C : Addr} {d : Option Addr} {f : Str} {fs : List (Str × Sc)} {i : Nat} {s : Sc} (hF : F.up.le (xat (some fs) d)) (hi : ρ[i]? = some (some (.v (.ref a)))) (hf : fs.lookup f = some s) (q : Φ s μ) : EvM F ρ μ (tXf a (.ref C) d C f (tVar i)) Φ := fun P μf hP σ H Q c k => by
  obtain ⟨I, c⟩ := c
  obtain ⟨u, e1, e2⟩ := c.up.2.2 i _ hi
  have e3 : u = .ref a := e2
  subst e3
  have hx := hF I (hP.1 I c.up.1)
  cases d with
  | none => exact hx.elim
  | some dd =>
    obtain ⟨us, h1, h2⟩ := hx
    have key : ∀ {us : List (Str × V)} {fs : List (Str × Sc)}, ScN I us fs → fs.lookup f = some s → ∃ v, us.lookup f = some v ∧ s.p I v := by
      intro us fs h
      induction h with
      | nil => intro h; cases h
      | @cons x y l1 l2 hxy _ ih =>
        intro h
        obtain ⟨n, v⟩ := x
        obtain ⟨m, t⟩ := y
        obtain ⟨rfl, hv⟩ : n = m ∧ Sc.p t I v := hxy
        by_cases e : f = n
        · subst e
          rw [List.lookup_cons_self] at h ⊢
          cases h
          exact ⟨v, rfl, hv⟩
        · have e' : (f == n) = false := by simpa using e
          rw [List.lookup_cons, e'] at h ⊢
          exact ih h
    have lk : ∀ (l : List (Str × Sc)), (l.lookup f = some s) = (l.lookup f = some s) := fun _ => rfl
    obtain ⟨v, hv, hs⟩ := key h2 hf
    exact ⟨.ref a, e1, rfl, rfl, dd, us, v, rfl, c.ex _ _ h1, hv, k s μ v H q ⟨I, c.ex, ⟨c.up, hs⟩, c.nd, c.mu⟩⟩
/-- what the clauses do with an error -/
def Hdl (K : PySem.W.Frag) (F : Fr) (ρ : Rho) (μ : Mu) (C : Addr) (fs : Option (List (Str × Sc))) (N : PN) (R : Sc → Mu → Prop) (B B' : PN) (Out : Prop) : List (Value × Option Nat × (Addr → Value → Option Addr → TS)) → Prop
  | [] => Out
  | (c, none, ts) :: r => ∃ b, PySem.W.exmOne K (.ref C) c = some b ∧ (b = true → ∀ a d (F' : Fr), F'.up.le (F.up.and (xat fs d)) → F'.mu = F.mu → Sat F' ρ μ (ts a (.ref C) d) N R B B') ∧ (b = false → Hdl K F ρ μ C fs N R B B' Out r)
  | (c, some i, ts) :: r => ∃ b, PySem.W.exmOne K (.ref C) c = some b ∧ (b = true → ∀ a d (F' : Fr), F'.up.le (F.up.and (xat fs d)) → F'.mu = F.mu → Sat F' (ρ.set i (some (.v (.ref a)))) μ (ts a (.ref C) d) (fun ρ1 μ1 => N (ρ1.set i none) μ1) R (fun ρ1 μ1 => B (ρ1.set i none) μ1) (fun ρ1 μ1 => B' (ρ1.set i none) μ1)) ∧
      (b = false → Hdl K F ρ μ C fs N R B B' Out r)
theorem Sl.clear {σ : L2.St} {ρ : Rho} {i : Nat} {I : Hp} (h : (Sl σ ρ).p I) : (Sl (σ.set i none) (ρ.set i none)).p I := by
  refine ⟨by rw [List.length_set, List.length_set]; exact h.1, fun j s hj => ?_⟩
  by_cases e : i = j
  · subst e
    by_cases hl : i < ρ.length
    · rw [List.getElem?_set_self hl] at hj; cases hj
    · rw [List.getElem?_eq_none (by rw [List.length_set]; omega)] at hj; cases hj
  · rw [List.getElem?_set_ne e] at hj ⊢
    exact h.2 j s hj
theorem hdl_ok {K : PySem.W.Frag} {Wout : WX} {P : Up} {μf : Mu} {C : Addr} {fs : Option (List (Str × Sc))} {d : Option Addr} {σ : L2.St} {H : Hp} {D : Ends} {B' : PN} {Out : Prop} (hout : Out → Wout (.ref C) d σ H)
    (c : Cf ((P.and (Sl σ ρ)).and (xat fs d)) (μ ++ μf) H) (q1 : ∀ ρ' μ' σ' H', N ρ' μ' → Cf (P.and (Sl σ' ρ')) (μ' ++ μf) H' → D.nx σ' H') (q2 : ∀ s μ' v H', R s μ' → Cf (P.and (sat s v)) (μ' ++ μf) H' → D.rt v H')
    (q3 : ∀ ρ' μ' σ' H', B ρ' μ' → Cf (P.and (Sl σ' ρ')) (μ' ++ μf) H' → D.bk σ' H') (q4 : ∀ ρ' μ' σ' H', B' ρ' μ' → Cf (P.and (Sl σ' ρ')) (μ' ++ μf) H' → D.ct σ' H') :
    ∀ l, Hdl K ⟨P, μf⟩ ρ μ C fs N R B B' Out l → wMix K Wout D l (.ref C) d σ H
  | [], h => hout h
  | (cl, none, ts) :: r, h => by
    obtain ⟨b, e, h1, h2⟩ := h
    refine ⟨b, e, fun eb a _ => ?_, fun eb => hdl_ok hout c q1 q2 q3 q4 r (h2 eb)⟩
    exact h1 eb a d ⟨P.and (xat fs d), μf⟩ (Up.le.refl _) rfl (P.and (xat fs d)) μf ⟨Up.le.refl _, [], rfl⟩ σ H D (c.le fun I z => ⟨⟨z.1.1, z.2⟩, z.1.2⟩) (fun ρ' μ' σ' H' n c' => q1 ρ' μ' σ' H' n (c'.le fun I z => ⟨z.1.1, z.2⟩))
      (fun s μ' v H' n c' => q2 s μ' v H' n (c'.le fun I z => ⟨z.1.1, z.2⟩)) (fun ρ' μ' σ' H' n c' => q3 ρ' μ' σ' H' n (c'.le fun I z => ⟨z.1.1, z.2⟩)) (fun ρ' μ' σ' H' n c' => q4 ρ' μ' σ' H' n (c'.le fun I z => ⟨z.1.1, z.2⟩))
  | (cl, some i, ts) :: r, h => by
    obtain ⟨b, e, h1, h2⟩ := h
    refine ⟨b, e, fun eb a _ => ?_, fun eb => hdl_ok hout c q1 q2 q3 q4 r (h2 eb)⟩
    exact h1 eb a d ⟨P.and (xat fs d), μf⟩ (Up.le.refl _) rfl (P.and (xat fs d)) μf ⟨Up.le.refl _, [], rfl⟩ _ H _ (c.le fun I z => ⟨⟨z.1.1, z.2⟩, Sl.set z.1.2 rfl⟩) (fun ρ' μ' σ' H' n c' => q1 _ μ' _ H' n (c'.le fun I z => ⟨z.1.1, Sl.clear z.2⟩))
      (fun s μ' v H' n c' => q2 s μ' v H' n (c'.le fun I z => ⟨z.1.1, z.2⟩)) (fun ρ' μ' σ' H' n c' => q3 _ μ' _ H' n (c'.le fun I z => ⟨z.1.1, Sl.clear z.2⟩)) (fun ρ' μ' σ' H' n c' => q4 _ μ' _ H' n (c'.le fun I z => ⟨z.1.1, Sl.clear z.2⟩))
/-- try: .. except ..: what the body may raise (Xp, with the slots as they are there) is all caught, or goes out as Wout wishes -/
theorem st_try {K : PySem.W.Frag} {Wout : WX} {tb : WX → TS} {l : List (Value × Option Nat × (Addr → Value → Option Addr → TS))} {B' : PN} (Xp : Rho → XP)
    (hb : ∀ (F' : Fr), F'.up.le F.up → (∃ μx, F'.mu = μx ++ F.mu) → ∀ W : WX, (∀ ρ' C fs μ' σ d H', Xp ρ' C fs μ' → Cf ((F'.up.and (Sl σ ρ')).and (xat fs d)) (μ' ++ F'.mu) H' → W (.ref C) d σ H') → Sat F' ρ μ (tb W) N R B B')
    (hh : ∀ ρ' C fs μ' (F' : Fr), F'.up.le F.up → (∃ μx, F'.mu = μx ++ F.mu) → Xp ρ' C fs μ' → Hdl K F' ρ' μ' C fs N R B B' False l) : Sat F ρ μ (fun D σ H => tb (wMix K Wout D l) D σ H) N R B B' := fun P μf hP σ H D c q1 q2 q3 q4 => by
  refine hb ⟨P, μf⟩ hP.1 hP.2 (wMix K Wout D l) (fun ρ' C fs μ' σ' d H' x' c' => ?_) P μf ⟨Up.le.refl _, [], rfl⟩ σ H D c q1 q2 q3 q4
  exact hdl_ok (Out := False) (fun z => z.elim) c' q1 q2 q3 q4 l (hh ρ' C fs μ' ⟨P, μf⟩ hP.1 hP.2 x')
end

/-! ### making errors -/
section
variable {X : Cx}
theorem pmk_own0 {C : Addr} {bmB : List Value} {B newId initId : String} {x : Str} {p pos : Pos} (F : ExcBaseFacts B newId initId bmB) (q : PySem.W.excIn X.K C bmB newId = true) (gC : X.mg x = some (.ref C))
    (kC : PySem.W.keepIn X.K (.ref C) = true) (r : Raises X (.ref C)) (hg : Gl X x) (hdb : (x == ("__debug__" : Str)) = false := by decide) :
    PMk X (.Call (.Name x p) [] [] pos) (fun (_ : L2.St) (H : Hp) (Q : XK) => Q (.ref C) none H) := by
  intro pins s σ H Q I h
  refine wpAny_Call_Name_kw (ld_glob I hg gC ?_ hdb)
  refine PySem.W.callWith_K0 I.kIn kC ?_
  show wpAny _ _ (call (.ref C) []) _ _ _
  obtain ⟨bm, N, nm, qn, bs, hdct, sn, sub, ab, col, dd, k0, k1, k2, k3, k5, mN, hC, hN, hni, T⟩ := exc_obj I.kIn q
  refine wpAny_call_exc_subT F T hC hN hni (fun h' e hm => ?_) (Nat.zero_le _)
  exact mk_of I hm r h (I.hok.gone hm.new)
end
end TK

/-! what the head tells: names, constants, error classes -/
namespace TK
open PySem PySem.Spec PyProof.Rows L2

/-- an own error class over ValueError, made by type.__call__ -/
def oexB (K : PySem.W.Frag) (C : Addr) : Bool := (match K.lookup C with
  | some ⟨.type "type", _, .cls cd, sl⟩ => (match cd.mro, sl.toList with
    | .ref C' :: bm, [_, _, _, _, some (.builtin n), _] => decide (C' = C) && (decide (n = "ValueError.__new__") && (cd.hasDict && (!cd.hasDel && PySem.HandSPX.refsVE bm)))
    | _, _ => false)
  | _ => false) && (He.eqO (PySem.W.findIn K (.ref C) "__setattr__") (some (some (.builtin "object.__setattr__"))) && (decide (PySem.W.subIn K (.ref C) (.type "BaseException") = some true) && (decide (PySem.W.typeIn K (.ref C) = some (.type "type")) && PySem.W.keepIn K (.ref C))))
theorem oexB_ok {K : PySem.W.Frag} {C : Addr} (h : oexB K C = true) : OexC K C := by
  obtain ⟨h1, h⟩ := He.ba h
  obtain ⟨h2, h⟩ := He.ba h
  obtain ⟨h3, h⟩ := He.ba h
  obtain ⟨h4, h5⟩ := He.ba h
  refine ⟨?_, He.eqO_ok h2, of_decide_eq_true h3, of_decide_eq_true h4, h5⟩
  split at h1
  · rename_i dd cd sl ho
    split at h1
    · rename_i C' bm k0 k1 k2 k3 n k5 hm hs
      obtain ⟨a1, h1⟩ := He.ba h1
      obtain ⟨a2, h1⟩ := He.ba h1
      obtain ⟨a3, h1⟩ := He.ba h1
      obtain ⟨a4, a5⟩ := He.ba h1
      have e1 : C' = C := of_decide_eq_true a1
      have e2 : n = "ValueError.__new__" := of_decide_eq_true a2
      subst e1 e2
      obtain ⟨nm, bs, mro, ns, qn, hd, sn, sub, ab, col, del⟩ := cd
      dsimp only at hm a3 a4
      subst hm a3
      have e4 : del = false := by cases del with | false => rfl | true => cases a4
      subst e4
      have hsl : sl = #[k0, k1, k2, k3, some (.builtin "ValueError.__new__"), k5] := by
        obtain ⟨l⟩ := sl
        simp only at hs
        rw [hs]
      subst hsl
      exact ⟨nm, qn, ns, bs, bm, sn, sub, ab, col, dd, k0, k1, k2, k3, k5, ho, a5⟩
    · cases h1
  · cases h1
/-- its __init__ -/
def iniB (K : PySem.W.Frag) (C : Addr) : Bool := He.eqO (PySem.W.findIn K (.ref C) "__init__") (some (some (.ref (He.ma K C "__init__")))) && decide (PySem.W.typeIn K (.ref (He.ma K C "__init__")) = some (.type "function"))
structure Hx (fa : List He.Fa) (fn : List He.DefD) (ex : PySem.W.Frag → Bool) (K : PySem.W.Frag) (mg : Str → Option Value) : Prop where
  says : He.SaysD fa fn K
  more : ex K = true
  glo : ∀ x v, PySem.W.nsIn K mainGlobals x = some (some v) → mg x = some v
  fre : ∀ x, PySem.W.nsIn K mainGlobals x = some none → mg x = none
section
variable {fa : List He.Fa} {fn : List He.DefD} {ex : PySem.W.Frag → Bool} {K : PySem.W.Frag} {mg : Str → Option Value}
theorem Hx.gl (T : Hx fa fn ex K mg) (i : Nat) {x : Str} (h : fa[i]? = some (.glo x) := by rfl) : mg x = some (.ref (He.ga K x)) := T.glo _ _ (He.eqO_ok (T.says.fact i h))
theorem Hx.fr (T : Hx fa fn ex K mg) (i : Nat) {x : Str} (h : fa[i]? = some (.free x) := by rfl) : mg x = none := T.fre _ (He.eqO_ok (T.says.fact i h))
theorem Hx.in (T : Hx fa fn ex K mg) (i : Nat) {x : Str} {n : Int} (h : fa[i]? = some (.int x n) := by rfl) : ∃ u, mg x = some u ∧ RelV (.int n) u := by
  have c2 : (match PySem.W.nsIn K mainGlobals x with
    | some (some (.int j _)) => decide (j = n)
    | _ => false) = true := T.says.fact i h
  cases e : PySem.W.nsIn K mainGlobals x with
  | none => rw [e] at c2; cases c2
  | some o =>
    rw [e] at c2
    cases o with
    | none => cases c2
    | some v =>
      cases v with
      | int j t =>
        have ej : j = n := of_decide_eq_true c2
        rw [ej] at e
        exact ⟨_, T.glo _ _ e, t, rfl⟩
      | _ => cases c2
theorem Hx.st (T : Hx fa fn ex K mg) (i : Nat) {x z : Str} (h : fa[i]? = some (.str x z) := by rfl) : ∃ u, mg x = some u ∧ RelV (.str z) u := by
  have c2 : (match PySem.W.nsIn K mainGlobals x with
    | some (some (.str y _)) => decide (y = z)
    | _ => false) = true := T.says.fact i h
  cases e : PySem.W.nsIn K mainGlobals x with
  | none => rw [e] at c2; cases c2
  | some o =>
    rw [e] at c2
    cases o with
    | none => cases c2
    | some v =>
      cases v with
      | str j t =>
        have ej : j = z := of_decide_eq_true c2
        rw [ej] at e
        exact ⟨_, T.glo _ _ e, t, rfl⟩
      | _ => cases c2
theorem Hx.xm (T : Hx fa fn ex K mg) (i : Nat) {x y : Str} {b : Bool} (h : fa[i]? = some (.exm x y b) := by rfl) : PySem.W.exmOne K (.ref (He.ga K x)) (.ref (He.ga K y)) = some b := He.exm_ok (T.says.fact i h)
end
/-- __init__(self, f): self.f = f -/
theorem init1_ok {P : Program} {w : World} {K : PySem.W.Frag} {mg : Str → Option Value} {base : Heap} {q : Str} {params : Arguments} {scope : Scope} {fI : Addr} {fd : FuncData} {C : Addr} {f : Str} {p1 p2 p3 p4 : Pos}
    (F : FunD K "__init__" q params [.Assign [.Attribute (.Name "self" p1) f p2] (.Name f p3) p4] scope [] [] fI fd) (S : FnScope ["self", f] ["self", f] scope) (x : OexC K C) (hno : PySem.W.findIn K (.ref C) f = some none)
    (v1 : Vis scope "self") (v2 : Vis scope f) (d2 : (f == ("__debug__" : Str)) = false) (d3 : (f == ("__classdict__" : Str)) = false) : FnOk P w K mg base CX0 1 fI fd ["self", f] (spI C f) := by
  refine F.ok S (fun vs H Q E h => ?_) (fun cdv A outer s H vs Q E hr h => ⟨_, pss_one (ps_ost (X := cxOf CX0 P w K mg base ["self", f] q scope fI cdv A outer s H E) (pe_var (i := 0) rfl v1) (pe_var (i := 1) rfl v2 d2 d3)), ?_⟩)
  · obtain ⟨a, y, rfl, _⟩ := h; rfl
  · obtain ⟨a, y, rfl, ea, q⟩ := h
    exact ⟨y, rfl, .ref a, rfl, a, C, rfl, x, hno, .inl ⟨ea, fun dx h1 h2 => q dx h1 h2⟩⟩
end TK

/-! rules with their frag named, for use inside comprehensions -/
namespace TK
open PySem PySem.Spec PyProof.Rows L2
section
variable {X : Cx} {K : PySem.W.Frag}
theorem call_lenK (e : X.K = K := by rfl) : CallR X (.builtin "len") (fun xs H Q => ∃ x n, xs = [x] ∧ LenV K x H n ∧ Q (.int n) H) := by subst e; exact call_len
theorem call_isiKK (e : X.K = K := by rfl) : CallR X (.builtin "isinstance") (rIsi K) := by subst e; exact call_isi
theorem ix_listK (e : X.K = K := by rfl) : IxR X (rIxL K) := by subst e; exact ix_list
theorem ix_tupK (e : X.K = K := by rfl) : IxR X (rIxT K) := by subst e; exact ix_tup
theorem sl_listK (e : X.K = K := by rfl) : SlR X (rSlL K) := by subst e; exact sl_list
theorem op_in_seqK (e : X.K = K := by rfl) : OpR X (compareOp .In) (rIn K false) := by subst e; exact op_in_seq
theorem op_notIn_seqK (e : X.K = K := by rfl) : OpR X (compareOp .NotIn) (rIn K true) := by subst e; exact op_notIn_seq
theorem op_eqDK (hu : X.A.units + 64 < cLine) (e : X.K = K := by rfl) : OpR X (compareOp .Eq) (rEqD K) := by subst e; exact op_eqD hu
theorem op_neDK (hu : X.A.units + 64 < cLine) (e : X.K = K := by rfl) : OpR X (compareOp .NotEq) (rNeD K) := by subst e; exact op_neD hu
theorem pi_listKK {tg l : Expr} {tl : TE} (hl : PE X l tl) (e : X.K = K := by rfl) : PI X tg l (iList K tl) := by subst e; exact pi_list hl
theorem pi_tupKK {tg l : Expr} {tl : TE} (hl : PE X l tl) (e : X.K = K := by rfl) : PI X tg l (iTup K tl) := by subst e; exact pi_tup hl
theorem pe_revLK {e : Expr} {te : TE} {k : Nat} {p1 p2 p3 pos : Pos} (he : PE X e te) (eK : X.K = K := by rfl) : PE X (.Subscript e (.Slice none none (some (.UnaryOp .USub (.Constant (.int 1) k p1) p2)) p3) pos) (tRevL K te) := by subst eK; exact pe_revL he
theorem mt_indexK (e : X.K = K := by rfl) : MtR X "list.index" (rIndex K) := by subst e; exact mt_index
theorem pe_bmK {o e : Expr} {es : List Expr} {to : TE} {t : TA} {name : Str} {apos cpos : Pos} {T id : String} {r : V → List V → Hp → VK → Prop} (pa : PlainAttrs T) (slot : Slot T name id) (hty : typeOf (.builtin id) = pure (.type "method_descriptor")) (hm : MtR X id r) (ho : PE X o to) (ha : PA X (e :: es) t)
    (eK : X.K = K := by rfl) (hbase : attributeBase o name X.env (eval o X.env) = eval o X.env := by rfl)
    (hfew : ((backTo cpos (starEach (e :: es) X.env)).all (fun x => !x.1) && (backToKw cpos (keywordEach [] X.env)).all (fun x => x.1.isSome)
      && decide ((e :: es).length + ([] : List Keyword).length + (if ([] : List Keyword).isEmpty then 0 else 1) < 30)) = true := by rfl)
    (hline : (apos.endLine == cpos.line) = true := by rfl) (hs : starEach (e :: es) X.env = (false, eval e X.env) :: starEach es X.env := by rfl) (hplain : (backTo cpos (starEach es X.env)).any (·.1) = false := by rfl) :
    PE X (.Call (.Attribute o name apos) (e :: es) [] cpos) (tBM K T r to t) := by subst eK; exact pe_bm pa slot hty hm ho ha hbase hfew hline hs hplain
theorem pe_bm0K {o : Expr} {to : TE} {name : Str} {apos cpos : Pos} {T id : String} {r : V → List V → Hp → VK → Prop} (pa : PlainAttrs T) (slot : Slot T name id) (hty : typeOf (.builtin id) = pure (.type "method_descriptor")) (hm : MtR X id r) (ho : PE X o to)
    (eK : X.K = K := by rfl) (hbase : attributeBase o name X.env (eval o X.env) = eval o X.env := by rfl) (hline : (apos.endLine == cpos.line) = true := by rfl) : PE X (.Call (.Attribute o name apos) [] [] cpos) (tBM0 K T r to) := by subst eK; exact pe_bm0 pa slot hty hm ho hbase hline
theorem sl_tupK (e : X.K = K := by rfl) : SlR X (rSlT K) := by subst e; exact sl_tup
end
end TK

/-! less known of the slots; pure comprehensions; what is known of a def; constants -/
namespace TK
open PySem PySem.Spec PyProof.Rows L2

/-- ρ' tells less than ρ -/
def Wk : Rho → Rho → Prop
  | [], [] => True
  | a :: as, b :: bs => (b = none ∨ a = b) ∧ Wk as bs
  | _, _ => False
theorem wk_nil : Wk [] [] := True.intro
theorem wk_no {a : Option Sc} {as bs : Rho} (h : Wk as bs) : Wk (a :: as) (none :: bs) := ⟨.inl rfl, h⟩
theorem wk_yes {a : Option Sc} {as bs : Rho} (h : Wk as bs) : Wk (a :: as) (a :: bs) := ⟨.inr rfl, h⟩
theorem Wk.refl : ∀ ρ : Rho, Wk ρ ρ
  | [] => True.intro
  | _ :: r => ⟨.inr rfl, Wk.refl r⟩
theorem Wk.len : ∀ {ρ ρ' : Rho}, Wk ρ ρ' → ρ'.length = ρ.length
  | [], [], _ => rfl
  | _ :: _, _ :: _, h => congrArg (· + 1) (Wk.len h.2)
  | [], _ :: _, h => h.elim
  | _ :: _, [], h => h.elim
theorem Wk.get : ∀ {ρ ρ' : Rho}, Wk ρ ρ' → ∀ (i : Nat) (s : Sc), ρ'[i]? = some (some s) → ρ[i]? = some (some s)
  | [], [], _, i, s, e => by simp at e
  | a :: as, b :: bs, h, 0, s, e => by
    have e' : b = some s := Option.some.inj e
    rcases h.1 with h1 | h1
    · rw [h1] at e'; cases e'
    · show some a = _
      rw [h1, e']
  | a :: as, b :: bs, h, i + 1, s, e => Wk.get (ρ := as) (ρ' := bs) h.2 i s e
  | [], _ :: _, h, _, _, _ => h.elim
  | _ :: _, [], h, _, _, _ => h.elim
section
variable {F : Fr} {ρ ρ' : Rho} {μ : Mu} {te ta tb tc : TE} {tt : TT} {Φ : Sc → Mu → Prop} {Ψ : Bool → Mu → Prop} {N : PN} {R : Sc → Mu → Prop} {B C : PN}
theorem st_wk {t : TS} (w : Wk ρ ρ') (h : Sat F ρ' μ t N R B C) : Sat F ρ μ t N R B C := st_rho w.len w.get h
theorem et_wk (w : Wk ρ ρ') (h : EvT F ρ' μ tt Ψ) : EvT F ρ μ tt Ψ := fun P μf hP σ H Q c k =>
  h (P.and (Sl σ ρ)) μf (le_l hP) σ H Q (c.le fun I z => ⟨z, Sl.forget z.2 w.len w.get⟩) fun b μ' H' hb c' => k b μ' H' hb (c'.le fun I z => z.1)
theorem ev_wk (w : Wk ρ ρ') (h : EvM F ρ' μ te Φ) : EvM F ρ μ te Φ := fun P μf hP σ H Q c k =>
  h (P.and (Sl σ ρ)) μf (le_l hP) σ H Q (c.le fun I z => ⟨z, Sl.forget z.2 w.len w.get⟩) fun b μ' v H' hb c' => k b μ' v H' hb (c'.le fun I z => ⟨z.1.1, z.2⟩)
theorem gt_wk {g : TG} {s : Sc} {Ξ : PN} (w : Wk ρ ρ') (h : Gt F ρ' μ g s Ξ) : Gt F ρ μ g s Ξ := fun P μf hP σ H v Q c k =>
  h P μf hP σ H v Q (c.le fun I z => ⟨⟨z.1.1, Sl.forget z.1.2 w.len w.get⟩, z.2⟩) k
/-- an answer that is told already -/
theorem et_det {b0 : Bool} (h : EvT F ρ μ tt fun b μ1 => b = b0 ∧ μ1 = μ) (k : Ψ b0 μ) : EvT F ρ μ tt Ψ := fun P μf hP σ H Q c q =>
  h P μf hP σ H Q c fun b μ' H' hb c' => by
    obtain ⟨rfl, rfl⟩ := hb
    exact q _ _ H' k c'
theorem ev_det {s0 : Sc} (h : EvM F ρ μ te fun s μ1 => s = s0 ∧ μ1 = μ) (k : Φ s0 μ) : EvM F ρ μ te Φ := h.mono fun s μ' z => by
  obtain ⟨rfl, rfl⟩ := z
  exact k
/-- a comprehension that makes data and changes nothing -/
theorem ev_lcF {wi : TI} {g : TG} {vs : List Nat} (h : EvI F ρ μ wi fun ds μ1 => ds.length ≤ 16777216 ∧ ∃ f : Nat → Option PyData,
      (∀ i s, ds[i]? = some s → Gc F (wipeR ρ vs) μ1 g s vs fun ρ2 μ2 => EvT F ρ2 μ2 tt fun b μ3 => (b = true → EvM F ρ2 μ3 te fun s' μ4 => ∃ d, f i = some d ∧ s' = .d d ∧ μ4 = μ1) ∧ (b = false → f i = none ∧ μ3 = μ1)) ∧
      Φ (.d (.list ((List.range ds.length).filterMap f))) μ1) : EvM F ρ μ (tLc wi g tt te vs) Φ := by
  refine ev_lcM fun P μf hP σ H Rr c k => h P μf hP σ H Rr c fun ds μ1 H1 J P2 h1 => k ds μ1 H1 J P2 ?_
  obtain ⟨hz, f, hs, q⟩ := h1
  refine ⟨hz, fun i acc μ' => acc = ((List.range i).filterMap f).map Sc.d ∧ μ' = μ1, ⟨rfl, rfl⟩, fun i s acc μ' hi hI => ?_, fun acc μ' hI => .inr ⟨_, hI.1, by rw [hI.2]; exact q⟩⟩
  obtain ⟨rfl, rfl⟩ := hI
  refine fun P μf hP σ H v Q c k => hs i s hi P μf hP σ H v Q c fun ρ' μ2 σ' H' hw hx => k ρ' μ2 σ' H' hw ?_
  refine fun P μf hP σ H Q c k => hx P μf hP σ H Q c fun b μ3 H3 hb => k b μ3 H3 ?_
  refine ⟨fun e => (hb.1 e).mono fun s' μ4 z => ?_, fun e => ?_⟩
  · obtain ⟨d, e1, rfl, rfl⟩ := z
    refine ⟨?_, rfl⟩
    rw [List.range_succ, List.filterMap_append, List.map_append]
    simp [e1]
  · obtain ⟨e1, e2⟩ := hb.2 e
    refine ⟨?_, e2⟩
    rw [List.range_succ, List.filterMap_append, List.map_append]
    simp [e1]
end
theorem fm_congr {α β : Type} {f g : α → Option β} : ∀ {l : List α}, (∀ x, x ∈ l → f x = g x) → l.filterMap f = l.filterMap g
  | [], _ => rfl
  | x :: l, h => by
    rw [List.filterMap_cons, List.filterMap_cons, h x List.mem_cons_self, fm_congr fun y hy => h y (List.mem_cons_of_mem _ hy)]
theorem filterMap_range_get {α β γ : Type} (enc : α → β) (g : α → Option γ) (f : Nat → Option γ) : ∀ xs : List α, (∀ i x, xs[i]? = some x → f i = g x) → (List.range xs.length).filterMap f = xs.filterMap g := by
  intro xs h
  have e : (List.range xs.length).filterMap f = (List.range xs.length).filterMap fun i => (xs[i]?).bind g := by
    refine fm_congr fun i hi => ?_
    have hi' := List.mem_range.mp hi
    rw [List.getElem?_eq_getElem hi']
    exact h i _ (List.getElem?_eq_getElem hi')
  rw [e]
  clear e h f
  induction xs with
  | nil => rfl
  | cons x xs ih =>
    rw [List.length_cons, List.range_succ_eq_map, List.filterMap_cons, List.filterMap_map]
    have e2 : ((fun i => ((x :: xs)[i]?).bind g) ∘ Nat.succ) = fun i => (xs[i]?).bind g := by funext i; rfl
    rw [e2, ih, List.filterMap_cons]
    show (match g x with | none => _ | some b => _) = _
    cases g x <;> rfl
section
variable {F : Fr} {ρ ρ' : Rho} {μ : Mu} {te ta tb tc : TE} {tt : TT} {Φ : Sc → Mu → Prop}
/-- the same, over what a list tells -/
theorem ev_lcA {α : Type} {wi : TI} {g : TG} {vs : List Nat} (h : EvI F ρ μ wi fun ds μ1 => ∃ (xs : List α) (enc : α → Sc) (f : α → Option PyData), ds = xs.map enc ∧ xs.length ≤ 16777216 ∧
      (∀ x, x ∈ xs → Gc F (wipeR ρ vs) μ1 g (enc x) vs fun ρ2 μ2 => EvT F ρ2 μ2 tt fun b μ3 => (b = true → EvM F ρ2 μ3 te fun s' μ4 => ∃ d, f x = some d ∧ s' = .d d ∧ μ4 = μ1) ∧ (b = false → f x = none ∧ μ3 = μ1)) ∧
      Φ (.d (.list (xs.filterMap f))) μ1) : EvM F ρ μ (tLc wi g tt te vs) Φ := by
  refine ev_lcF fun P μf hP σ H Rr c k => h P μf hP σ H Rr c fun ds μ1 H1 J P2 h1 => k ds μ1 H1 J P2 ?_
  obtain ⟨xs, enc, f, rfl, hz, hs, q⟩ := h1
  refine ⟨by rw [List.length_map]; exact hz, fun i => (xs[i]?).bind f, fun i s hi => ?_, ?_⟩
  · rw [List.getElem?_map] at hi
    cases e : xs[i]? with
    | none => rw [e] at hi; cases hi
    | some x =>
      rw [e] at hi
      have es : enc x = s := Option.some.inj hi
      subst es
      have e2 : (xs[i]?).bind f = f x := by rw [e]; rfl
      simp only [e2]
      exact hs x (List.mem_of_getElem? e)
  · rw [List.length_map, filterMap_range_get enc f]
    · exact q
    · intro i x hx
      show (xs[i]?).bind f = _
      rw [hx]; rfl
end

/-! ### texts that are written in the program -/
abbrev cs (s : String) : List Nat := (Str.ofString s).cps.toList
/-! ### what is known of a def -/
def Kn (P : Program) (w : World) (K : PySem.W.Frag) (mg : Str → Option Value) (base : Heap) (k : Nat) (x : Str) (params : Arguments) (body : List Stmt) (scope : Scope) (ps : List Str) (A : Ct) : Prop :=
  ∃ f fd, mg x = some (.ref f) ∧ FunD K x x params body scope [] [] f fd ∧ FnOk P w K mg base (L2.CX P w) k f fd ps (SpOf A)
theorem up_raise {P : Up} {G : Up} {fs : Option (List (Str × Sc))} {d : Option Addr} {μ : Mu} {H : Hp} (c : Cf ((P.and G).and (xat fs d)) μ H) : Cf (P.and (xat fs d)) μ H := c.le fun I z => ⟨z.1.1, z.2⟩
end TK

/-! == on lists -/
namespace TK
open PySem PySem.Spec PyProof.Rows L2
theorem canLayAll_of : ∀ {ds : List PyData}, (∀ d, d ∈ ds → PyData.canLay0 d = true) → PyData.canLayAll0 ds = true
  | [], _ => by simp [PyData.canLayAll0]
  | d :: r, h => by
    simp only [PyData.canLayAll0, Bool.and_eq_true]
    exact ⟨h d List.mem_cons_self, canLayAll_of fun x hx => h x (List.mem_cons_of_mem _ hx)⟩
theorem depthAll_of {n : Nat} : ∀ {ds : List PyData}, (∀ d, d ∈ ds → PyData.depth d ≤ n) → PyData.depthAll ds ≤ n
  | [], _ => by simp [PyData.depthAll]
  | d :: r, h => by
    have h1 := h d List.mem_cons_self
    have h2 := depthAll_of (n := n) (ds := r) fun x hx => h x (List.mem_cons_of_mem _ hx)
    simp only [PyData.depthAll]; omega
theorem shaped_of {ds : List PyData} (h : ∀ d, d ∈ ds → PyData.canLay0 d = true ∧ PyData.depth d ≤ 60) : SeqAt.shaped (.list ds) = true := by
  have h1 : PyData.canLayAll0 ds = true := canLayAll_of fun d hd => (h d hd).1
  have h2 : PyData.depthAll ds ≤ 60 := depthAll_of fun d hd => (h d hd).2
  show (PyData.canLay0 (.list ds) && decide (PyData.depth (.list ds) ≤ 64)) = true
  rw [Bool.and_eq_true]
  exact ⟨by simp only [PyData.canLay0]; exact h1, decide_eq_true (by simp only [PyData.depth]; omega)⟩
theorem shaped_chars {l : List Nat} (h : ∀ c, c ∈ l → c < 0x110000) : SeqAt.shaped (.list (l.map fun c => .str (Tx [c]))) = true := shaped_of fun d hd => by
  obtain ⟨c, hc, rfl⟩ := List.mem_map.mp hd
  refine ⟨?_, by simp [PyData.depth]⟩
  simp only [PyData.canLay0, PyData.strOk]
  simp [Tx, h c hc]
theorem shaped_nil : SeqAt.shaped (.list []) = true := shaped_of fun d hd => by cases hd
theorem eqv_nilR (ds : List PyData) : PyData.eqv (.list ds) (.list []) = ds.isEmpty := by
  cases ds <;> simp [PyData.eqv, PyData.eqvAll]
section
variable {F : Fr} {μ : Mu} {Φ : Sc → Mu → Prop}
theorem ro_neDM {K : PySem.W.Frag} {p : Addr} {n : Nat} {ds : List PyData} {b : PyData} (hm : μ[n]? = some (p, .lst (ds.map Sc.d))) (ha : SeqAt.shaped (.list ds) = true) (hb : SeqAt.shaped b = true) (q : Φ (B (!PyData.eqv (.list ds) b)) μ) : RO F μ (rNeD K) (.v (.ref p)) (.d b) Φ := fun P μf hP H u v Q c k => by
  have eu : u = .ref p := c.at.1.2
  subst eu
  obtain ⟨I, e1, _, _, us, g1, g2⟩ := c.get (ix_left hm)
  exact ⟨.list ds, b, .lst (SqL.of g1) (dqAll_dp ds _ (dqAll_mono e1 _ _ (satL_data g2))), dq_dp _ _ c.at.2, ha, hb, k _ μ _ H q ((c.le Up.and_l).le fun I z => ⟨z.1, .bl _⟩)⟩
theorem ro_eqDM {K : PySem.W.Frag} {p : Addr} {n : Nat} {ds : List PyData} {b : PyData} (hm : μ[n]? = some (p, .lst (ds.map Sc.d))) (ha : SeqAt.shaped (.list ds) = true) (hb : SeqAt.shaped b = true) (q : Φ (B (PyData.eqv (.list ds) b)) μ) : RO F μ (rEqD K) (.v (.ref p)) (.d b) Φ := fun P μf hP H u v Q c k => by
  have eu : u = .ref p := c.at.1.2
  subst eu
  obtain ⟨I, e1, _, _, us, g1, g2⟩ := c.get (ix_left hm)
  exact ⟨.list ds, b, .lst (SqL.of g1) (dqAll_dp ds _ (dqAll_mono e1 _ _ (satL_data g2))), dq_dp _ _ c.at.2, ha, hb, k _ μ _ H q ((c.le Up.and_l).le fun I z => ⟨z.1, .bl _⟩)⟩
end
/-- swapcase of a text of letters -/
theorem placed_of {l : List Nat} {f : Nat → Nat → List Nat} {g : Nat → Nat} (h : ∀ i c, l[i]? = some c → f i c = [g c]) : placed (Tx l) f = (l.map g).toArray := by
  apply Array.toList_inj.mp
  unfold placed
  have e : (l.mapIdx fun i c => (f i c).toArray) = l.map fun c => #[g c] := by
    apply List.ext_getElem?
    intro i
    rw [List.getElem?_mapIdx, List.getElem?_map]
    cases e : l[i]? with
    | none => rfl
    | some c => show some (f i c).toArray = some _; rw [h i c e]
  have e2 : ((Tx l).cps.mapIdx fun i c => (f i c).toArray) = (l.map fun c => #[g c]).toArray := by
    rw [← e]
    simp [Tx]
  rw [e2]
  simp only [List.flatten_toArray]
  clear e e2 h
  induction l with
  | nil => rfl
  | cons c r ih => simpa using ih
theorem swap_txt {l : List Nat} {g : Nat → Nat} (h : ∀ c, c ∈ l → (c = 0x3A3) = False ∧ (if Unicode.isUpper c then Unicode.lowerOf c else if Unicode.isLower c then Unicode.upperOf c else [c]) = [g c]) : Txt.swapcase (Tx l) = Tx (l.map g) := by
  unfold Txt.swapcase
  rw [placed_of (g := g)]
  intro i c hc
  obtain ⟨h1, h2⟩ := h c (List.mem_of_getElem? hc)
  have e : Unicode.lowerAt (Tx l).cps i = Unicode.lowerOf c := by
    unfold Unicode.lowerAt
    have e1 : (Tx l).cps[i]? = some c := by simpa [Tx] using hc
    rw [e1]
    have e2 : (c == 0x3A3) = false := by simpa using h1
    simp only [e2, Bool.false_and]
    rfl
  rw [e]
  exact h2
section
variable {F : Fr} {ρ ρ' : Rho} {μ : Mu} {te ta tb tc : TE} {tt : TT} {Φ : Sc → Mu → Prop} {Ψ : Bool → Mu → Prop}
theorem et_yes (q : Ψ true μ) : EvT F ρ μ tYes Ψ := fun P μf hP σ H Q c k => k true μ H q c
/-- [f x for x in xs] -/
theorem ev_lcMap {α : Type} {wi : TI} {g : TG} {vs : List Nat} (h : EvI F ρ μ wi fun ds μ1 => ∃ (xs : List α) (enc : α → Sc) (f : α → PyData), ds = xs.map enc ∧ xs.length ≤ 16777216 ∧
      (∀ x, x ∈ xs → Gc F (wipeR ρ vs) μ1 g (enc x) vs fun ρ2 μ2 => EvM F ρ2 μ2 te fun s' μ4 => s' = .d (f x) ∧ μ4 = μ1) ∧
      Φ (.d (.list (xs.map f))) μ1) : EvM F ρ μ (tLc wi g tYes te vs) Φ := by
  refine ev_lcA (α := α) fun P μf hP σ H Rr c k => h P μf hP σ H Rr c fun ds μ1 H1 J P2 h1 => k ds μ1 H1 J P2 ?_
  obtain ⟨xs, enc, f, rfl, hz, hs, q⟩ := h1
  refine ⟨xs, enc, fun x => some (f x), rfl, hz, fun x hx => ?_, by rw [List.filterMap_eq_map']; exact q⟩
  refine fun P μf hP σ H v Q c k => hs x hx P μf hP σ H v Q c fun ρ' μ2 σ' H' hw hx => k ρ' μ2 σ' H' hw ?_
  exact et_yes ⟨fun _ => hx.mono fun s' μ4 z => ⟨_, rfl, z.1, z.2⟩, fun z => by cases z⟩
/-- [f x for x in xs if p x] -/
theorem ev_lcSel {α : Type} {wi : TI} {g : TG} {vs : List Nat} (h : EvI F ρ μ wi fun ds μ1 => ∃ (xs : List α) (enc : α → Sc) (p : α → Bool) (f : α → PyData), ds = xs.map enc ∧ xs.length ≤ 16777216 ∧
      (∀ x, x ∈ xs → Gc F (wipeR ρ vs) μ1 g (enc x) vs fun ρ2 μ2 => EvT F ρ2 μ2 tt fun b μ3 => b = p x ∧ μ3 = μ1 ∧ (b = true → EvM F ρ2 μ3 te fun s' μ4 => s' = .d (f x) ∧ μ4 = μ1)) ∧
      Φ (.d (.list ((xs.filter p).map f))) μ1) : EvM F ρ μ (tLc wi g tt te vs) Φ := by
  refine ev_lcA (α := α) fun P μf hP σ H Rr c k => h P μf hP σ H Rr c fun ds μ1 H1 J P2 h1 => k ds μ1 H1 J P2 ?_
  obtain ⟨xs, enc, p, f, rfl, hz, hs, q⟩ := h1
  refine ⟨xs, enc, fun x => if p x then some (f x) else none, rfl, hz, fun x hx => ?_, ?_⟩
  · refine fun P μf hP σ H v Q c k => hs x hx P μf hP σ H v Q c fun ρ' μ2 σ' H' hw hx => k ρ' μ2 σ' H' hw ?_
    refine fun P μf hP σ H Q c k => hx P μf hP σ H Q c fun b μ3 H3 hb => k b μ3 H3 ?_
    obtain ⟨e1, e2, e3⟩ := hb
    refine ⟨fun e => (e3 e).mono fun s' μ4 z => ⟨f x, if_pos (e1.symm.trans e), z.1, z.2⟩, fun e => ⟨if_neg (by rw [← e1, e]; decide), e2⟩⟩
  · have e : (xs.filterMap fun x => if p x then some (f x) else none) = (xs.filter p).map f := by
      clear q hs hz
      induction xs with
      | nil => rfl
      | cons x r ih =>
        rw [List.filterMap_cons, List.filter_cons]
        by_cases hp : p x = true
        · rw [if_pos hp, if_pos hp, List.map_cons, ih]
        · rw [if_neg hp, if_neg hp, ih]
    rw [e]; exact q
end
end TK

/-! parts of sequences; arithmetic with its conditions -/
namespace TK
open PySem PySem.Spec PyProof.Rows L2
section
variable {α : Type} {l : List α} {a b i : Nat}
theorem cut_b (hb : b ≤ l.length) : cut l none (some (b : Int)) = l.take b := by
  unfold cut
  rw [show HT.sIx l.length 0 none = 0 from rfl, HT.sIx_nat, Nat.min_eq_left hb, Nat.sub_zero, List.drop_zero]
theorem cut_a (ha : a ≤ l.length) : cut l (some (a : Int)) none = l.drop a := by
  unfold cut
  rw [HT.sIx_nat, Nat.min_eq_left ha, show HT.sIx l.length l.length none = l.length from rfl]
  exact List.take_of_length_le (by rw [List.length_drop]; exact Nat.le_refl _)
theorem cut_ab (ha : a ≤ l.length) (hb : b ≤ l.length) : cut l (some (a : Int)) (some (b : Int)) = (l.drop a).take (b - a) := by
  unfold cut
  rw [HT.sIx_nat, HT.sIx_nat, Nat.min_eq_left ha, Nat.min_eq_left hb]
theorem cut_bmin : cut l none (some (b : Int)) = l.take b := by
  unfold cut
  rw [show HT.sIx l.length 0 none = 0 from rfl, HT.sIx_nat, Nat.sub_zero, List.drop_zero]
  by_cases h : b ≤ l.length
  · rw [Nat.min_eq_left h]
  · rw [Nat.min_eq_right (by omega), List.take_of_length_le (Nat.le_refl _), List.take_of_length_le (by omega)]
/-- l[:-1] -/
theorem cut_last : cut l none (some (-1)) = l.dropLast := by
  unfold cut
  rw [show HT.sIx l.length 0 none = 0 from rfl, Nat.sub_zero, List.drop_zero, List.dropLast_eq_take]
  congr 1
  simp only [HT.sIx]
  rw [if_pos (by decide)]; omega
theorem atI_natE : atI l (i : Int) = l[i]? := by
  unfold atI ixN
  rw [if_pos (by omega)]
  by_cases h : i < l.length
  · rw [if_pos (by omega)]; simp
  · rw [if_neg (by omega), List.getElem?_eq_none (by omega)]; rfl
theorem atI_zero : atI l 0 = l[0]? := atI_natE (i := 0)
theorem atI_m1 : atI l (-1) = l.getLast? := by
  unfold atI ixN
  rw [if_neg (by decide)]
  cases l with
  | nil => rfl
  | cons x r =>
    rw [if_pos (by rw [List.length_cons]; omega)]
    show (x :: r)[(-1 + ((r.length + 1 : Nat) : Int)).toNat]? = _
    rw [show (-1 + ((r.length + 1 : Nat) : Int)).toNat = r.length by omega, List.getLast?_eq_getElem?, List.length_cons, Nat.add_sub_cancel]
end
section
variable {F : Fr} {μ : Mu} {Φ : Sc → Mu → Prop} {i j : Int}
theorem rm_findN {s sub : List Nat} (h : fstAt s sub = none) (q : Φ (I (-1)) μ) : RM F μ (fun x xs H Q => ∃ a b, x = .str a ∧ xs = [.str b] ∧ Q (.int (Txt.find a b)) H) (T s) [T sub] Φ := rm_find (by rw [h]; exact q)
theorem rm_findS {s sub : List Nat} {t : Nat} (h : fstAt s sub = some t) (q : Φ (I (t : Int)) μ) : RM F μ (fun x xs H Q => ∃ a b, x = .str a ∧ xs = [.str b] ∧ Q (.int (Txt.find a b)) H) (T s) [T sub] Φ := rm_find (by rw [h]; exact q)
theorem ro_mul (h : (-(2 ^ 64) < i ∧ i < 2 ^ 64) ∨ (-(2 ^ 64) < j ∧ j < 2 ^ 64)) (q : Φ (I (i * j)) μ) : RO F μ (rI CMul fun i j => .int (i * j)) (I i) (I j) Φ := ro_IC h q
theorem ro_div (h : 0 < j ∧ j < 1073741824) (q : Φ (I (i / j)) μ) : RO F μ (rI CDiv fun i j => .int (i / j)) (I i) (I j) Φ := ro_IC h q
theorem ro_mod (h : 0 < j) (q : Φ (I (i % j)) μ) : RO F μ (rI (fun _ j => 0 < j) fun i j => .int (i % j)) (I i) (I j) Φ := ro_IC (C := fun _ j => 0 < j) h q
theorem ro_pow (h : 0 ≤ j ∧ j ≤ 1000000 ∧ i.natAbs < 2 ^ 64) (q : Φ (I (i ^ j.toNat)) μ) : RO F μ (rI CPow fun i j => .int (i ^ j.toNat)) (I i) (I j) Φ := ro_IC h q
end
end TK

/-! items of a list or a tuple; isinstance by what is told; == on texts; what cannot be -/
namespace TK
open PySem PySem.Spec PyProof.Rows L2
theorem ix_seqK {X : Cx} {K : PySem.W.Frag} (e : X.K = K := by rfl) : IxR X (rIx K) := by subst e; exact ix_seq
section
variable {F : Fr} {ρ : Rho} {μ : Mu} {Φ : Sc → Mu → Prop} {K : PySem.W.Frag} {m : String} {b : Bool}
theorem ro_ixAL {ds : List PyData} {i : Int} {d : PyData} (hi : atI ds i = some d) (q : Φ (.d d) μ) : RO F μ (rIx K) (.d (.list ds)) (I i) Φ := fun P μf hP H x y Q c k => .inl (ro_ixL hi q P μf hP H x y Q c k)
theorem ro_ixAT {ds : List PyData} {i : Int} {d : PyData} (hi : atI ds i = some d) (q : Φ (.d d) μ) : RO F μ (rIx K) (.d (.tuple ds)) (I i) Φ := fun P μf hP H x y Q c k => .inr (.inl (ro_ixT hi q P μf hP H x y Q c k))
theorem rc_isiN (h : kitB "NoneType" m = some b) (q : Φ (B b) μ) : RC F μ (rIsi K) [N0, .v (.ty m)] Φ := rc_isi (n := "NoneType") rfl h q
theorem rc_isiB {x : Bool} (h : kitB "bool" m = some b) (q : Φ (B b) μ) : RC F μ (rIsi K) [.d (.bool x), .v (.ty m)] Φ := rc_isi (n := "bool") rfl h q
theorem rc_isiI {x : Int} (h : kitB "int" m = some b) (q : Φ (B b) μ) : RC F μ (rIsi K) [.d (.int x), .v (.ty m)] Φ := rc_isi (n := "int") rfl h q
theorem rc_isiS {x : Str} (h : kitB "str" m = some b) (q : Φ (B b) μ) : RC F μ (rIsi K) [.d (.str x), .v (.ty m)] Φ := rc_isi (n := "str") rfl h q
theorem rc_isiL {x : List PyData} (h : kitB "list" m = some b) (q : Φ (B b) μ) : RC F μ (rIsi K) [.d (.list x), .v (.ty m)] Φ := rc_isi (n := "list") rfl h q
theorem rc_isiU {x : List PyData} (h : kitB "tuple" m = some b) (q : Φ (B b) μ) : RC F μ (rIsi K) [.d (.tuple x), .v (.ty m)] Φ := rc_isi (n := "tuple") rfl h q
theorem ro_eqS {x y : Str} (q : Φ (B (decide (x = y))) μ) : RO F μ rEq (.d (.str x)) (.d (.str y)) Φ := ro_eq rfl rfl rfl (by rw [show decide (V.str x = V.str y) = decide (x = y) from decide_eq_decide.mpr ⟨fun h => by cases h; rfl, fun h => by rw [h]⟩]; exact q)
theorem ro_neS {x y : Str} (q : Φ (B (!decide (x = y))) μ) : RO F μ rNe (.d (.str x)) (.d (.str y)) Φ := ro_ne rfl rfl rfl (by rw [show decide (V.str x = V.str y) = decide (x = y) from decide_eq_decide.mpr ⟨fun h => by cases h; rfl, fun h => by rw [h]⟩]; exact q)
theorem ro_isNn (q : Φ (B true) μ) : RO F μ (fun x y H Q => y = .non ∧ Q (.bl (decide (x = .non))) H) N0 N0 Φ := ro_isN (b := true) rfl q
theorem ro_notNn (q : Φ (B false) μ) : RO F μ (fun x y H Q => y = .non ∧ Q (.bl (!decide (x = .non))) H) N0 N0 Φ := ro_notN (b := true) rfl q
theorem ro_isNb {x : Bool} (q : Φ (B false) μ) : RO F μ (fun x y H Q => y = .non ∧ Q (.bl (decide (x = .non))) H) (.d (.bool x)) N0 Φ := ro_isN (b := false) rfl q
theorem ro_notNb {x : Bool} (q : Φ (B true) μ) : RO F μ (fun x y H Q => y = .non ∧ Q (.bl (!decide (x = .non))) H) (.d (.bool x)) N0 Φ := ro_notN (b := false) rfl q
theorem ro_isNi {x : Int} (q : Φ (B false) μ) : RO F μ (fun x y H Q => y = .non ∧ Q (.bl (decide (x = .non))) H) (.d (.int x)) N0 Φ := ro_isN (b := false) rfl q
theorem ro_notNi {x : Int} (q : Φ (B true) μ) : RO F μ (fun x y H Q => y = .non ∧ Q (.bl (!decide (x = .non))) H) (.d (.int x)) N0 Φ := ro_notN (b := false) rfl q
theorem ro_isNs {x : Str} (q : Φ (B false) μ) : RO F μ (fun x y H Q => y = .non ∧ Q (.bl (decide (x = .non))) H) (.d (.str x)) N0 Φ := ro_isN (b := false) rfl q
theorem ro_notNs {x : Str} (q : Φ (B true) μ) : RO F μ (fun x y H Q => y = .non ∧ Q (.bl (!decide (x = .non))) H) (.d (.str x)) N0 Φ := ro_notN (b := false) rfl q
theorem ro_isNl {x : List PyData} (q : Φ (B false) μ) : RO F μ (fun x y H Q => y = .non ∧ Q (.bl (decide (x = .non))) H) (.d (.list x)) N0 Φ := ro_isN (b := false) rfl q
theorem ro_notNl {x : List PyData} (q : Φ (B true) μ) : RO F μ (fun x y H Q => y = .non ∧ Q (.bl (!decide (x = .non))) H) (.d (.list x)) N0 Φ := ro_notN (b := false) rfl q
theorem ro_isNu {x : List PyData} (q : Φ (B false) μ) : RO F μ (fun x y H Q => y = .non ∧ Q (.bl (decide (x = .non))) H) (.d (.tuple x)) N0 Φ := ro_isN (b := false) rfl q
theorem ro_notNu {x : List PyData} (q : Φ (B true) μ) : RO F μ (fun x y H Q => y = .non ∧ Q (.bl (!decide (x = .non))) H) (.d (.tuple x)) N0 Φ := ro_notN (b := false) rfl q
theorem ro_isNv {x : Addr} (q : Φ (B false) μ) : RO F μ (fun x y H Q => y = .non ∧ Q (.bl (decide (x = .non))) H) (.v (.ref x)) N0 Φ := ro_isN (b := false) rfl q
theorem ro_notNv {x : Addr} (q : Φ (B true) μ) : RO F μ (fun x y H Q => y = .non ∧ Q (.bl (!decide (x = .non))) H) (.v (.ref x)) N0 Φ := ro_notN (b := false) rfl q
theorem st_dict {t : TS} {N : PN} {R : Sc → Mu → Prop} {B C : PN} {i : Nat} {kv : List (PyData × PyData)} (h : ρ[i]? = some (some (.d (.dict kv)))) : Sat F ρ μ t N R B C := fun P μf hP σ H D c => by
  obtain ⟨I, c⟩ := c
  obtain ⟨u, _, h2⟩ := c.up.2.2 i _ h
  cases h2
end
theorem depth_mem {d : PyData} : ∀ {ds : List PyData}, d ∈ ds → PyData.depth d ≤ PyData.depthAll ds
  | x :: r, h => by
    simp only [PyData.depthAll]
    rcases List.mem_cons.mp h with rfl | h
    · omega
    · have := depth_mem h; omega
def isN : PyData → Bool
  | .none => true
  | _ => false
end TK

/-! dicts that may change, with keys that are whole numbers or texts -/
namespace TK
open PySem PySem.Spec PyProof.Rows L2
def putS (kvs : List (Key × Sc)) (k : Key) (s : Sc) : List (Key × Sc) := if (kvs.any fun kv => decide (kv.1 = k)) = true then kvs.map (fun kv => if kv.1 = k then (kv.1, s) else kv) else kvs ++ [(k, s)]
def valS (kvs : List (Key × Sc)) (k : Key) : Option Sc := (kvs.find? fun kv => decide (kv.1 = k)).map (·.2)
theorem scN_any {I : Hp} {k : Key} : ∀ {us : List (Key × V)} {kvs : List (Key × Sc)}, ScN I us kvs → (us.any fun kv => decide (kv.1 = k)) = (kvs.any fun kv => decide (kv.1 = k))
  | _, _, .nil => rfl
  | _, _, .cons h t => by rw [List.any_cons, List.any_cons, scN_any t, h.1]
theorem scN_map {I : Hp} {k : Key} {v : V} {s : Sc} (hv : s.p I v) : ∀ {us : List (Key × V)} {kvs : List (Key × Sc)}, ScN I us kvs → ScN I (us.map fun kv => if kv.1 = k then (kv.1, v) else kv) (kvs.map fun kv => if kv.1 = k then (kv.1, s) else kv)
  | _, _, .nil => .nil
  | (x :: us), (y :: kvs), .cons h t => by
    refine .cons ?_ (scN_map hv t)
    by_cases e : x.1 = k
    · have e2 : y.1 = k := h.1.symm.trans e
      show (if x.1 = k then (x.1, v) else x).1 = (if y.1 = k then (y.1, s) else y).1 ∧ Sc.p (if y.1 = k then (y.1, s) else y).2 I (if x.1 = k then (x.1, v) else x).2
      rw [if_pos e, if_pos e2]; exact ⟨h.1, hv⟩
    · have e2 : ¬ y.1 = k := fun z => e (h.1.trans z)
      show (if x.1 = k then (x.1, v) else x).1 = (if y.1 = k then (y.1, s) else y).1 ∧ Sc.p (if y.1 = k then (y.1, s) else y).2 I (if x.1 = k then (x.1, v) else x).2
      rw [if_neg e, if_neg e2]; exact h
theorem scN_app {I : Hp} {κ : Type} : ∀ {us ws : List (κ × V)} {kvs ks : List (κ × Sc)}, ScN I us kvs → ScN I ws ks → ScN I (us ++ ws) (kvs ++ ks)
  | _, _, _, _, .nil, s => s
  | _, _, _, _, .cons h t, s => .cons h (scN_app t s)
theorem scN_put {I : Hp} {k : Key} {v : V} {s : Sc} {us : List (Key × V)} {kvs : List (Key × Sc)} (h : ScN I us kvs) (hv : s.p I v) : ScN I (putK us k v) (putS kvs k s) := by
  unfold putK putS
  rw [scN_any h]
  split
  · exact scN_map hv h
  · exact scN_app h (.cons ⟨rfl, hv⟩ .nil)
theorem scN_val {I : Hp} {k : Key} : ∀ {us : List (Key × V)} {kvs : List (Key × Sc)}, ScN I us kvs → (valS kvs k = none ∧ valV us k = none) ∨ ∃ s v, valS kvs k = some s ∧ valV us k = some v ∧ s.p I v
  | _, _, .nil => .inl ⟨rfl, rfl⟩
  | (x :: us), (y :: kvs), .cons h t => by
    by_cases e : x.1 = k
    · have e2 : y.1 = k := h.1.symm.trans e
      exact .inr ⟨y.2, x.2, by simp [valS, List.find?_cons, e2], valV_pos e, h.2⟩
    · have e2 : ¬ y.1 = k := fun z => e (h.1.trans z)
      have e3 : valS (y :: kvs) k = valS kvs k := by simp [valS, List.find?_cons, e2]
      rw [e3, valV_neg e]
      exact scN_val t
theorem scN_len {I : Hp} {κ : Type} {us : List (κ × V)} {kvs : List (κ × Sc)} (h : ScN I us kvs) : us.length = kvs.length := Paired.length h
/-- a key told by a descriptor -/
def keyS : Key → Sc
  | .inl i => I i
  | .inr x => .d (.str x)
theorem keyS_ok {k : Key} {J : Hp} {v : V} (h : (keyS k).p J v) : v = kV k := by
  cases k with
  | inl i => exact dq_int h
  | inr x => exact dq_str h
section
variable {F : Fr} {ρ : Rho} {μ : Mu} {te ta tb tc : TE} {tt : TT} {Φ : Sc → Mu → Prop} {N : PN} {Ξ : PN} {R : Sc → Mu → Prop} {B C : PN} {p : Addr} {n : Nat} {kvs : List (Key × Sc)}
theorem ev_dnew (h : ∀ p, Φ (.v (.ref p)) ((p, .dic []) :: μ)) : EvM F ρ μ tDNewK Φ := fun P μf hP σ H Q c k p hp =>
  k _ _ _ _ (h p) ((c.newM (m := .dic []) hp fun I e z => ⟨[], upd_same, .nil⟩).le fun I z => ⟨z, rfl⟩)
theorem rc_lenD (hm : μ[n]? = some (p, .dic kvs)) (q : Φ (I (kvs.length : Int)) μ) : RC F μ (fun xs H Q => ∃ a kvs, xs = [V.ref a] ∧ H a = some (.dK kvs) ∧ Q (.int kvs.length) H) [.v (.ref p)] Φ := fun P μf hP H xs Q c k => by
  obtain ⟨y, rfl, hy⟩ := scL1 c.at.2
  have ex : y = .ref p := hy
  subst ex
  obtain ⟨I, e1, _, _, us, g1, g2⟩ := c.get (ix_left hm)
  refine ⟨p, us, rfl, g1, ?_⟩
  rw [scN_len g2]
  exact k _ μ _ H q (cf_ans c fun _ _ _ => .int _)
/-- d[y] = v -/
theorem gt_setD {to ti : TE} {s : Sc} (h : EvM F ρ μ to fun so μ1 => EvM F ρ μ1 ti fun si μ2 => ∃ (p : Addr) (n : Nat) (kvs : List (Key × Sc)) (k : Key), so = .v (.ref p) ∧ si = keyS k ∧ μ2[n]? = some (p, .dic kvs) ∧ kvs.length < 16777216 ∧ Ξ ρ (μ2.set n (p, .dic (putS kvs k s)))) :
    Gt F ρ μ (gSub to ti rSetD) s Ξ := fun P μf hP σ H v Q c k =>
  h (P.and (sat s v)) μf (le_l hP) σ H _ (c.le fun I z => ⟨⟨z.1.1, z.2⟩, z.1.2⟩) fun so μ1 o H1 h1 c1 =>
    h1 ((P.and (sat s v)).and (sat so o)) μf (le_l (le_l hP)) σ H1 _ (c1.le fun I z => ⟨⟨z.1.1, z.2⟩, z.1.2⟩) fun si μ2 i H2 h2 c2 => by
      obtain ⟨p, n, kvs, key, rfl, rfl, hm, hz, q⟩ := h2
      have eo : o = .ref p := c2.at.1.1.2
      subst eo
      have ei := keyS_ok c2.at.2
      subst ei
      obtain ⟨J, e1, _, _, us, g1, g2⟩ := c2.get (ix_left hm)
      refine ⟨p, _, rfl, DPut.k g1 (by rw [scN_len g2, sizeLine_eq]; exact hz), k _ _ _ _ q ?_⟩
      refine (cf_set (m' := .dic (putS kvs key s)) c2 hm fun I e z hm1 => ?_).le fun I z => ⟨z.1.1.1.1, z.1.2⟩
      obtain ⟨us', h3, h4⟩ := hm1
      have e3 : us' = us := by rw [g1] at h3; cases h3; rfl
      subst e3
      exact ⟨_, upd_same, scN_put h4 z.1.1.1.2⟩
theorem ev_din {to ti : TE} (h : EvM F ρ μ ti fun si μ1 => EvM F ρ μ1 to fun so μ2 => ∃ (p : Addr) (n : Nat) (kvs : List (Key × Sc)) (k : Key), so = .v (.ref p) ∧ si = keyS k ∧ μ2[n]? = some (p, .dic kvs) ∧ Φ (TK.B (valS kvs k).isSome) μ2) : EvM F ρ μ (tDIn ti to) Φ := fun P μf hP σ H Q c k =>
  h P μf hP σ H _ c fun si μ1 i H1 h1 c1 =>
    h1 (P.and (sat si i)) μf (le_l hP) σ H1 _ (c1.le fun I z => ⟨⟨z.1.1, z.2⟩, z.1.2⟩) fun so μ2 o H2 h2 c2 => by
      obtain ⟨p, n, kvs, key, rfl, rfl, hm, q⟩ := h2
      have eo : o = .ref p := c2.at.2
      subst eo
      have ei := keyS_ok c2.at.1.1.2
      subst ei
      obtain ⟨J, e1, _, _, us, g1, g2⟩ := c2.get (ix_left hm)
      refine ⟨p, _, rfl, DGet.k g1, ?_⟩
      have e : (valV us key).isSome = (valS kvs key).isSome := by
        rcases scN_val (k := key) g2 with ⟨a, b⟩ | ⟨s, v, a, b, _⟩ <;> rw [a, b] <;> rfl
      rw [e]
      exact k _ μ2 _ H2 q (c2.le fun I z => ⟨⟨z.1.1.1, z.1.2⟩, .bl _⟩)
theorem ev_dget {to ti : TE} (h : EvM F ρ μ to fun so μ1 => EvM F ρ μ1 ti fun si μ2 => ∃ (p : Addr) (n : Nat) (kvs : List (Key × Sc)) (k : Key) (s : Sc), so = .v (.ref p) ∧ si = keyS k ∧ μ2[n]? = some (p, .dic kvs) ∧ valS kvs k = some s ∧ Φ s μ2) : EvM F ρ μ (tDGet to ti) Φ := fun P μf hP σ H Q c k =>
  h P μf hP σ H _ c fun so μ1 o H1 h1 c1 =>
    h1 (P.and (sat so o)) μf (le_l hP) σ H1 _ (c1.le fun I z => ⟨⟨z.1.1, z.2⟩, z.1.2⟩) fun si μ2 i H2 h2 c2 => by
      obtain ⟨p, n, kvs, key, s, rfl, rfl, hm, hv, q⟩ := h2
      have eo : o = .ref p := c2.at.1.1.2
      subst eo
      have ei := keyS_ok c2.at.2
      subst ei
      obtain ⟨J, c2⟩ := c2
      obtain ⟨hJ, us, g1, g2⟩ := c2.mu _ (List.mem_of_getElem? (ix_left hm))
      rcases scN_val (k := key) g2 with ⟨a, _⟩ | ⟨s', v, a, b, hp⟩
      · rw [hv] at a; cases a
      · rw [hv] at a; cases a
        refine ⟨p, v, rfl, by rw [← b]; exact DGet.k g1, k _ μ2 _ H2 q ⟨J, c2.ex, ⟨⟨c2.up.1.1.1, c2.up.1.2⟩, hp⟩, c2.nd, c2.mu⟩⟩
/-- what is known behind -/
theorem st_N {t : TS} (N' : PN) (h : Sat F ρ μ t N' R B C) (k : ∀ ρ1 μ1, N' ρ1 μ1 → N ρ1 μ1) : Sat F ρ μ t N R B C := h.mono k (fun _ _ z => z) (fun _ _ z => z) (fun _ _ z => z)
/-- one after the other, with what is known between -/
theorem st_seqN {t u : TS} (N' : PN) (h : Sat F ρ μ t N' R B C) (k : ∀ ρ1 μ1, N' ρ1 μ1 → Sat F ρ1 μ1 u N R B C) : Sat F ρ μ (tSeq t u) N R B C := st_seq (h.mono k (fun _ _ z => z) (fun _ _ z => z) (fun _ _ z => z))
theorem Sub.drop {μ1 : Mu} {q : Addr × MO} : Sub μ1 (q :: μ1) := ⟨μ1, List.Perm.refl _, List.sublist_cons_self _ _⟩
theorem Sub.refl {μ1 : Mu} : Sub μ1 μ1 := ⟨μ1, List.Perm.refl _, List.Sublist.refl _⟩
theorem Sub.keep {μ1 μ2 : Mu} {q : Addr × MO} (h : Sub μ1 μ2) : Sub (q :: μ1) (q :: μ2) := by
  obtain ⟨l, hp, hs⟩ := h
  exact ⟨q :: l, hp.cons q, hs.cons_cons q⟩
theorem Sub.skip {μ1 μ2 : Mu} {q : Addr × MO} (h : Sub μ1 μ2) : Sub μ1 (q :: μ2) := by
  obtain ⟨l, hp, hs⟩ := h
  exact ⟨l, hp, hs.cons q⟩
end
/-- try: .. except ..: the reading by name -/
def tTry (K : PySem.W.Frag) (Wout : WX) (tb : WX → TS) (l : List (Value × Option Nat × (Addr → Value → Option Addr → TS))) : TS := fun D σ H => tb (wMix K Wout D l) D σ H
section
variable {X : Cx} {K : PySem.W.Frag} {body : List Stmt} {tb : WX → TS} {Wout : WX} {h₀ : ExceptHandler} {hds : List ExceptHandler} {l : List (Value × Option Nat × (Addr → Value → Option Addr → TS))} {pos : Pos}
theorem ps_try_mixT (hs : X.stack = X.env :: X.outer) (hf : X.env.frame = some X.env.locals) (tk : Takes X Wout)
    (hb : ∀ (W : WX) (pn : List (Addr × Obj)) (xe : Value → Shared → Prop), Takes (X.tr pn xe) W → PassesOwn (model X.prog X.w) X.A X.env xe → PSs (X.tr pn xe) body (tb W))
    (hh : HdsMix X (h₀ :: hds) l) (eK : X.K = K := by rfl) : PS X (.Try body (h₀ :: hds) [] [] pos) (tTry K Wout tb l) := by subst eK; exact ps_try_mix hs hf tk hb hh
end
section
variable {F : Fr} {ρ : Rho} {μ : Mu} {N : PN} {R : Sc → Mu → Prop} {B C : PN}
theorem st_tryT {K : PySem.W.Frag} {Wout : WX} {tb : WX → TS} {l : List (Value × Option Nat × (Addr → Value → Option Addr → TS))} {B' : PN} (Xp : Rho → XP)
    (hb : ∀ (F' : Fr), F'.up.le F.up → (∃ μx, F'.mu = μx ++ F.mu) → ∀ W : WX, (∀ ρ' C fs μ' σ d H', Xp ρ' C fs μ' → Cf ((F'.up.and (Sl σ ρ')).and (xat fs d)) (μ' ++ F'.mu) H' → W (.ref C) d σ H') → Sat F' ρ μ (tb W) N R B B')
    (hh : ∀ ρ' C fs μ' (F' : Fr), F'.up.le F.up → (∃ μx, F'.mu = μx ++ F.mu) → Xp ρ' C fs μ' → Hdl K F' ρ' μ' C fs N R B B' False l) : Sat F ρ μ (tTry K Wout tb l) N R B B' := st_try Xp hb hh
end
end TK

/-! the script: a list of whole numbers that stands somewhere -/
namespace TK
open PySem PySem.Spec PyProof.Rows L2
theorem rd_mono {I I' : Hp} {a : Addr} {o : HO} (e : Ex I I') (h : Rd I a o) : Rd I' a o := by
  rcases h with h | ⟨ob, h⟩
  · exact .inl (e _ _ h)
  · exact .inr ⟨ob, e _ _ h⟩
theorem sqL_mono {K : PySem.W.Frag} {I I' : Hp} {a : Addr} {xs : List V} (e : Ex I I') (h : SqL K I a xs) : SqL K I' a xs := by
  rcases h with h | h
  · exact .inl (rd_mono e h)
  · exact .inr h
def scS (K : PySem.W.Frag) (ns : List Int) : Sc := .u fun v => ⟨fun I => ∃ a, v = .ref a ∧ SqL K I a (ns.map V.int), fun e h => by
  obtain ⟨a, h1, h2⟩ := h
  exact ⟨a, h1, sqL_mono e h2⟩⟩
section
variable {F : Fr} {ρ : Rho} {μ : Mu} {Φ : Sc → Mu → Prop} {K : PySem.W.Frag} {ns : List Int}
theorem rc_lenSc (q : Φ (I (ns.length : Int)) μ) : RC F μ (fun xs H Q => ∃ x n, xs = [x] ∧ LenV K x H n ∧ Q (.int n) H) [scS K ns] Φ := fun P μf hP H xs Q c k => by
  obtain ⟨y, rfl, hy⟩ := scL1 c.at.2
  obtain ⟨a, rfl, h⟩ := hy
  exact ⟨_, ns.length, rfl, .inl ⟨_, h, by rw [List.length_map]⟩, k _ μ _ H q (cf_ans c fun _ _ _ => .int _)⟩
theorem ro_ixSc {i : Int} {d : Int} (hi : atI ns i = some d) (q : Φ (I d) μ) : RO F μ (rIxL K) (scS K ns) (I i) Φ := fun P μf hP H x y Q c k => by
  obtain ⟨a, rfl, h⟩ := c.at.1.2
  exact ⟨a, _, i, .int d, rfl, dq_int c.at.2, h, by rw [atI_map, hi]; rfl, k _ μ _ H q ((c.le Up.and_l).le fun I z => ⟨z.1, .int _⟩)⟩
theorem ints_dq {H : Hp} : ∀ ns : List Int, DqAll H (ns.map V.int) (ns.map PyData.int)
  | [] => .nil
  | n :: r => .cons (.int n) (ints_dq r)
theorem rs_Sc {lo hi : Option Int} (q : Φ (.d (.list ((cut ns lo hi).map .int))) μ) : RS F μ (rSlL K) (scS K ns) lo hi Φ := fun P μf hP H x Q c k => by
  obtain ⟨a, rfl, h⟩ := c.at.2
  refine ⟨a, _, rfl, h, fun p hp => k _ μ _ _ q ?_⟩
  refine (c.new (F := sat (.d (.list ((cut ns lo hi).map .int))) (.ref p)) hp fun I e z => ?_).le fun I z => ⟨z.1.1, z.2⟩
  have e2 : cutV (ns.map V.int) lo hi = (cut ns lo hi).map V.int := by
    unfold cutV cut
    rw [List.length_map, List.map_take, List.map_drop]
  rw [e2]
  exact .lst upd_same (ints_dq _)
end
end TK

/-! words with signs: plain Lean -/
namespace K
def okc (c : Nat) : Bool := decide (c ∈ [97, 98, 99, 65, 66, 67])
def good (l : List Nat) : Bool := decide (l.length ≤ 60) && l.all okc
def sw (c : Nat) : Nat := c ^^^ 32
/-- a sign comes to a reduced word -/
def push (acc : List Nat) (c : Nat) : List Nat := if acc.getLast? = some (sw c) then acc.dropLast else acc ++ [c]
def red (l : List Nat) : List Nat := l.foldl push []
def iv (l : List Nat) : List Nat := l.reverse.map sw
def cn (w : List Nat) : Nat := ((List.range (w.length / 2)).takeWhile fun j => w[j]? == (w[w.length - 1 - j]?).map sw).length
def outerOf (w : List Nat) : List Nat := w.take (cn w)
def coreOf (w : List Nat) : List Nat := (w.drop (cn w)).take (w.length - 2 * cn w)
def isR (c : List Nat) (s : Nat) : Bool := decide (c.length % s = 0) && decide ((List.replicate (c.length / s) (c.take s)).flatten = c)
def rs (c : List Nat) : Nat := ((List.range' 1 c.length).find? (isR c)).getD 0
def rootOf (w : List Nat) : List Nat := red (outerOf w ++ (coreOf w).take (rs (coreOf w)) ++ iv (outerOf w))
def numOf (w : List Nat) : Nat := (coreOf w).length / rs (coreOf w)
theorem sw_sw (c : Nat) : sw (sw c) = c := by unfold sw; rw [Nat.xor_assoc, Nat.xor_self, Nat.xor_zero]
theorem sw_ne (c : Nat) : sw c ≠ c := by
  intro h
  have h2 : c ^^^ (c ^^^ 32) = c ^^^ c := congrArg (c ^^^ ·) h
  rw [← Nat.xor_assoc, Nat.xor_self, Nat.zero_xor] at h2
  cases h2
theorem okc_sw {c : Nat} (h : okc c = true) : okc (sw c) = true := by
  have h' := of_decide_eq_true h
  simp only [List.mem_cons, List.not_mem_nil, or_false] at h'
  rcases h' with rfl | rfl | rfl | rfl | rfl | rfl <;> decide
theorem push_ok {a : List Nat} {c : Nat} (h : a.all okc = true) (hc : okc c = true) : (push a c).all okc = true := by
  unfold push
  split
  · rw [List.all_eq_true] at h ⊢
    exact fun x hx => h x (List.dropLast_subset _ hx)
  · rw [List.all_append, h]; simp [hc]
theorem foldl_push_ok : ∀ {l a : List Nat}, a.all okc = true → l.all okc = true → (l.foldl push a).all okc = true
  | [], a, h, _ => h
  | c :: l, a, h, hl => by
    rw [List.all_cons, Bool.and_eq_true] at hl
    exact foldl_push_ok (l := l) (a := push a c) (push_ok h hl.1) hl.2
theorem red_ok {l : List Nat} (h : l.all okc = true) : (red l).all okc = true := foldl_push_ok rfl h
theorem push_len (a : List Nat) (c : Nat) : (push a c).length ≤ a.length + 1 := by
  unfold push
  split
  · rw [List.length_dropLast]; omega
  · rw [List.length_append]; exact Nat.le_refl _
theorem foldl_push_len : ∀ (l a : List Nat), (l.foldl push a).length ≤ a.length + l.length
  | [], a => Nat.le_refl _
  | c :: l, a => by
    have h1 := foldl_push_len l (push a c)
    have h2 := push_len a c
    show (l.foldl push (push a c)).length ≤ _
    rw [List.length_cons]; omega
theorem red_len (l : List Nat) : (red l).length ≤ l.length := by
  have := foldl_push_len l []
  simpa [red] using this
theorem iv_ok {l : List Nat} (h : l.all okc = true) : (iv l).all okc = true := by
  rw [List.all_eq_true] at h ⊢
  intro x hx
  obtain ⟨y, hy, rfl⟩ := List.mem_map.mp hx
  exact okc_sw (h y (List.mem_reverse.mp hy))
theorem iv_len (l : List Nat) : (iv l).length = l.length := by simp [iv]
end K

namespace K
theorem tw_spec {α : Type} (p : α → Bool) : ∀ (l : List α) (i : Nat), i ≤ (l.takeWhile p).length → (i < (l.takeWhile p).length ↔ ∃ x, l[i]? = some x ∧ p x = true)
  | [], i, h => by simp
  | x :: r, i, h => by
    rw [List.takeWhile_cons] at h ⊢
    by_cases hp : p x = true
    · rw [if_pos hp] at h ⊢
      cases i with
      | zero => exact ⟨fun _ => ⟨x, rfl, hp⟩, fun _ => Nat.succ_pos _⟩
      | succ i =>
        rw [List.length_cons] at h ⊢
        have ih := tw_spec p r i (by omega)
        rw [show (x :: r)[i + 1]? = r[i]? from rfl]
        exact ⟨fun z => ih.mp (by omega), fun z => by have := ih.mpr z; omega⟩
    · rw [if_neg hp] at h ⊢
      have h0 : i = 0 := by simpa using h
      subst h0
      constructor
      · intro z; exact absurd z (Nat.lt_irrefl 0)
      · rintro ⟨y, hy, hpy⟩
        have e : x = y := Option.some.inj hy
        rw [e] at hp; exact absurd hpy hp
theorem cn_le (w : List Nat) : 2 * cn w ≤ w.length := by
  unfold cn
  have h := (List.takeWhile_sublist (l := List.range (w.length / 2)) (fun j => w[j]? == (w[w.length - 1 - j]?).map sw)).length_le
  rw [List.length_range] at h
  omega
theorem cn_step {w : List Nat} {i : Nat} (h : i ≤ cn w) : i < cn w ↔ 2 * i + 2 ≤ w.length ∧ w[i]? = (w[w.length - 1 - i]?).map sw := by
  unfold cn at h ⊢
  rw [tw_spec _ _ _ h]
  constructor
  · rintro ⟨x, hx, hp⟩
    have hl := (List.getElem?_eq_some_iff.mp hx).1
    rw [List.length_range] at hl
    rw [List.getElem?_range hl] at hx
    have e : i = x := Option.some.inj hx
    subst e
    exact ⟨by omega, by simpa using hp⟩
  · rintro ⟨h1, h2⟩
    exact ⟨i, List.getElem?_range (by omega), by simpa using h2⟩
theorem isR_len {c : List Nat} (h : c ≠ []) : isR c c.length = true := by
  have h0 : 0 < c.length := List.length_pos_iff.mpr h
  unfold isR
  rw [Nat.mod_self, Nat.div_self h0, List.take_length]
  simp
/-- the sizes that are tried, in order -/
def sizes (c : List Nat) : List Nat := (List.range c.length).filter fun i => isR c (i + 1)
theorem rs_head {c : List Nat} (h : c ≠ []) : ∃ r, sizes c = (rs c - 1) :: r ∧ 1 ≤ rs c ∧ rs c ≤ c.length ∧ isR c (rs c) = true := by
  have h0 : 0 < c.length := List.length_pos_iff.mpr h
  have e1 : List.range' 1 c.length = (List.range c.length).map (1 + ·) := by
    rw [List.range_eq_range', List.map_add_range']
  have e2 : (List.range' 1 c.length).find? (isR c) = (sizes c).head?.map (1 + ·) := by
    rw [e1, List.find?_map, sizes, List.head?_filter]
    congr 2
    funext i; show isR c (1 + i) = _; rw [Nat.add_comm]
  cases es : sizes c with
  | nil =>
    exfalso
    have hm : c.length - 1 ∈ sizes c := by
      refine List.mem_filter.mpr ⟨List.mem_range.mpr (by omega), ?_⟩
      rw [show c.length - 1 + 1 = c.length by omega]
      exact isR_len h
    rw [es] at hm; cases hm
  | cons x r =>
    have hx : x ∈ sizes c := by rw [es]; exact List.mem_cons_self
    obtain ⟨h1, h2⟩ := List.mem_filter.mp hx
    have h3 := List.mem_range.mp h1
    have e3 : rs c = x + 1 := by unfold rs; rw [e2, es]; show 1 + x = _; omega
    rw [e3]
    exact ⟨r, rfl, by omega, by omega, h2⟩
theorem rs_min {c : List Nat} {s : Nat} (h1 : 1 ≤ s) (h2 : s ≤ c.length) (h : isR c s = true) : rs c ≤ s := by
  unfold rs
  cases e : (List.range' 1 c.length).find? (isR c) with
  | none => exact Nat.zero_le _
  | some x =>
    show x ≤ s
    rcases Nat.lt_or_ge s x with hlt | hge
    · exfalso
      have := List.find?_range'_eq_some.mp e
      have h3 := this.2.2 s (by omega) hlt
      rw [h] at h3; cases h3
    · exact hge
end K

namespace K
/-! free reduction: a stack that stands on its head -/
def rp : List Nat → Nat → List Nat
  | [], c => [c]
  | t :: ts, c => if t = sw c then ts else c :: t :: ts
def NR : List Nat → Prop
  | a :: b :: r => a ≠ sw b ∧ NR (b :: r)
  | _ => True
theorem sw_iff {a b : Nat} : a = sw b ↔ b = sw a := ⟨fun h => by rw [h, sw_sw], fun h => by rw [h, sw_sw]⟩
theorem push_rp (a : List Nat) (c : Nat) : push a c = (rp a.reverse c).reverse := by
  unfold push
  cases h : a.reverse with
  | nil =>
    have : a = [] := by simpa using h
    subst this; rfl
  | cons t ts =>
    have ha : a = ts.reverse ++ [t] := by rw [← List.reverse_reverse a, h, List.reverse_cons]
    subst ha
    rw [List.getLast?_append, List.dropLast_concat]
    show (if some t = some (sw c) then _ else _) = (if t = sw c then ts else c :: t :: ts).reverse
    by_cases e : t = sw c
    · rw [if_pos (congrArg some e), if_pos e]
    · rw [if_neg (fun z => e (Option.some.inj z)), if_neg e]; simp
theorem foldl_push_rp : ∀ (l st : List Nat), l.foldl push st.reverse = (l.foldl rp st).reverse
  | [], st => rfl
  | c :: l, st => by
    show l.foldl push (push st.reverse c) = (l.foldl rp (rp st c)).reverse
    rw [push_rp, List.reverse_reverse, foldl_push_rp l]
theorem red_rp (l : List Nat) : red l = (l.foldl rp []).reverse := foldl_push_rp l []
theorem NR.tail {a : Nat} {r : List Nat} (h : NR (a :: r)) : NR r := by
  cases r with
  | nil => exact True.intro
  | cons b r => exact h.2
theorem rp_nr {st : List Nat} (h : NR st) (c : Nat) : NR (rp st c) := by
  cases st with
  | nil => exact True.intro
  | cons t ts =>
    show NR (if t = sw c then ts else c :: t :: ts)
    by_cases e : t = sw c
    · rw [if_pos e]; exact h.tail
    · rw [if_neg e]; exact ⟨fun z => e (sw_iff.mp z), h⟩
theorem fold_nr : ∀ (l : List Nat) {st : List Nat}, NR st → NR (l.foldl rp st)
  | [], _, h => h
  | c :: l, _, h => fold_nr l (rp_nr h c)
theorem rp_rp {st : List Nat} (h : NR st) (c : Nat) : rp (rp st c) (sw c) = st := by
  cases st with
  | nil => show (if c = sw (sw c) then [] else _) = []; rw [sw_sw, if_pos rfl]
  | cons t ts =>
    show rp (if t = sw c then ts else c :: t :: ts) (sw c) = _
    by_cases e : t = sw c
    · rw [if_pos e]
      cases ts with
      | nil => rw [e]; rfl
      | cons u us =>
        show (if u = sw (sw c) then us else sw c :: u :: us) = _
        have hu : ¬ u = sw (sw c) := fun z => h.1 (by rw [z, e, sw_sw])
        rw [if_neg hu, e]
    · rw [if_neg e]
      show (if c = sw (sw c) then t :: ts else _) = _
      rw [sw_sw, if_pos rfl]
/-- words that act alike -/
def E (l m : List Nat) : Prop := ∀ st, NR st → l.foldl rp st = m.foldl rp st
theorem E.rfl {l : List Nat} : E l l := fun _ _ => Eq.refl _
theorem E.symm {l m : List Nat} (h : E l m) : E m l := fun st hs => (h st hs).symm
theorem E.trans {l m n : List Nat} (h : E l m) (h' : E m n) : E l n := fun st hs => (h st hs).trans (h' st hs)
theorem E.app {l l' m m' : List Nat} (h : E l l') (h' : E m m') : E (l ++ m) (l' ++ m') := fun st hs => by
  rw [List.foldl_append, List.foldl_append, h st hs, h' _ (fold_nr l' hs)]
theorem E.pair (c : Nat) : E [c, sw c] [] := fun st hs => rp_rp hs c
theorem E.pair' (c : Nat) : E [sw c, c] [] := fun st hs => by
  have := rp_rp hs (sw c)
  rw [sw_sw] at this; exact this
theorem E.red : ∀ l : List Nat, E l (red l) := by
  intro l
  suffices h : ∀ r : List Nat, E r.reverse (K.red r.reverse) by
    have := h l.reverse
    rwa [List.reverse_reverse] at this
  intro r
  induction r with
  | nil => exact E.rfl
  | cons c r ih =>
    rw [List.reverse_cons]
    generalize r.reverse = l at ih ⊢
    intro st hs
    rw [List.foldl_append, ih st hs, red_rp l, red_rp (l ++ [c]), List.foldl_append]
    show rp _ c = (rp (l.foldl rp []) c).reverse.foldl rp st
    generalize l.foldl rp [] = f
    cases f with
    | nil => rfl
    | cons t ts =>
      show rp ((t :: ts).reverse.foldl rp st) c = (if t = sw c then ts else c :: t :: ts).reverse.foldl rp st
      rw [List.reverse_cons, List.foldl_append]
      by_cases e : t = sw c
      · rw [if_pos e]
        have e2 : c = sw t := sw_iff.mp e
        show rp (rp _ t) c = _
        rw [e2]
        exact rp_rp (fold_nr _ hs) t
      · rw [if_neg e, List.reverse_cons, List.reverse_cons, List.foldl_append, List.foldl_append]; rfl
theorem red_of_E {l m : List Nat} (h : E l m) : red l = red m := by rw [red_rp, red_rp, h [] True.intro]
theorem E_of_red {l m : List Nat} (h : red l = red m) : E l m := (E.red l).trans (h ▸ (E.red m).symm)
theorem red_red (l : List Nat) : red (red l) = red l := (red_of_E (E.red l)).symm
/-! reduced words -/
theorem NR.app : ∀ {a : Nat} {l m : List Nat}, NR (l ++ a :: m) → NR (a :: m)
  | a, [], m, h => h
  | a, b :: l, m, h => NR.app (l := l) (NR.tail h)
theorem fold_red : ∀ (l st : List Nat), NR (l.reverse ++ st) → l.foldl rp st = l.reverse ++ st
  | [], st, _ => rfl
  | c :: l, st, h => by
    rw [List.reverse_cons, List.append_assoc] at h
    have h1 : NR (c :: st) := NR.app h
    have e : rp st c = c :: st := by
      cases st with
      | nil => rfl
      | cons t ts =>
        show (if t = sw c then ts else c :: t :: ts) = _
        rw [if_neg fun z => h1.1 (sw_iff.mp z)]
    show l.foldl rp (rp st c) = _
    rw [e, fold_red l (c :: st) h, List.reverse_cons, List.append_assoc]; rfl
theorem NR_iff {l : List Nat} : NR l ↔ ∀ a, a + 1 < l.length → ¬ l[a]? = (l[a + 1]?).map sw := by
  induction l with
  | nil => exact ⟨fun _ a h => by simp at h, fun _ => True.intro⟩
  | cons x r ih =>
    cases r with
    | nil => exact ⟨fun _ a h => by simp at h, fun _ => True.intro⟩
    | cons y r =>
      constructor
      · rintro ⟨h1, h2⟩ a ha
        cases a with
        | zero => intro z; exact h1 (by simpa using z)
        | succ a => exact ih.mp h2 a (by simpa using ha)
      · intro h
        refine ⟨fun z => h 0 (by simp) (by simpa using z), ih.mpr fun a ha => ?_⟩
        exact h (a + 1) (by simpa using ha)
theorem NR_rev {l : List Nat} (h : NR l) : NR l.reverse := by
  rw [NR_iff] at h ⊢
  intro a ha
  rw [List.length_reverse] at ha
  have := h (l.length - 1 - (a + 1)) (by omega)
  rw [List.getElem?_reverse (by omega), List.getElem?_reverse (by omega)]
  intro z
  apply this
  rw [show l.length - 1 - (a + 1) + 1 = l.length - 1 - a by omega]
  rw [List.getElem?_eq_getElem (by omega), List.getElem?_eq_getElem (by omega)] at z ⊢
  have z' := Option.some.inj z
  exact congrArg some (sw_iff.mp z')
theorem red_of_NR {l : List Nat} (h : NR l) : red l = l := by
  have := fold_red l [] (by rw [List.append_nil]; exact NR_rev h)
  rw [red_rp, this, List.append_nil, List.reverse_reverse]
theorem NR_red (l : List Nat) : NR (red l) := by rw [red_rp]; exact NR_rev (fold_nr l True.intro)
theorem red_noCancel {s : List Nat} (h : ∀ a, a + 1 < s.length → ¬ s[a]? = (s[a + 1]?).map sw) : red s = s := red_of_NR (NR_iff.mpr h)
/-! inverses -/
theorem iv_app (l m : List Nat) : iv (l ++ m) = iv m ++ iv l := by simp [iv]
theorem iv_iv (l : List Nat) : iv (iv l) = l := by
  unfold iv
  rw [← List.map_reverse, List.reverse_reverse, List.map_map]
  have : (sw ∘ sw) = id := by funext c; exact sw_sw c
  rw [this, List.map_id]
theorem E.inv : ∀ l : List Nat, E (l ++ iv l) []
  | [] => E.rfl
  | c :: l => by
    have h : (c :: l) ++ iv (c :: l) = [c] ++ ((l ++ iv l) ++ [sw c]) := by simp [iv]
    rw [h]
    exact (E.app E.rfl (E.app (E.inv l) E.rfl)).trans (E.pair c)
theorem E.inv' (l : List Nat) : E (iv l ++ l) [] := by
  have := E.inv (iv l)
  rwa [iv_iv] at this
theorem E.iv {l m : List Nat} (h : E l m) : E (iv l) (iv m) := by
  have h1 : E (K.iv l) (K.iv l ++ (m ++ K.iv m)) := by
    have := E.app (E.rfl (l := K.iv l)) (E.inv m).symm
    rwa [List.append_nil] at this
  refine h1.trans ?_
  rw [← List.append_assoc]
  have h2 : E (K.iv l ++ m) [] := (E.app E.rfl h.symm).trans (E.inv' l)
  exact E.app h2 E.rfl
theorem NR_iv {l : List Nat} (h : NR l) : NR (iv l) := by
  have h1 := NR_rev h
  unfold iv
  rw [NR_iff] at h1 ⊢
  intro a ha
  rw [List.length_map] at ha
  rw [List.getElem?_map, List.getElem?_map]
  intro z
  apply h1 a ha
  rw [List.getElem?_eq_getElem (by omega), List.getElem?_eq_getElem ha] at z ⊢
  have z' := Option.some.inj z
  refine congrArg some ?_
  have := congrArg sw z'
  rw [sw_sw, sw_sw] at this
  exact this
theorem red_iv (l : List Nat) : red (iv l) = iv (red l) := by
  rw [red_of_E (E.iv (E.red l)), red_of_NR (NR_iv (NR_red l))]
theorem prod1 (l : List Nat) : red (l ++ iv (red l)) = [] := red_of_E ((E.app E.rfl (E.iv (E.red l).symm)).trans (E.inv l))
theorem prod2 (l : List Nat) : red (iv (red l) ++ l) = [] := red_of_E ((E.app (E.iv (E.red l).symm) E.rfl).trans (E.inv' l))
theorem outer_root (w x : List Nat) : red (outerOf w ++ x ++ red (iv (outerOf w))) = red (outerOf w ++ x ++ iv (outerOf w)) := red_of_E (E.app E.rfl (E.red _).symm)
theorem red_cut {s : List Nat} {a : Nat} (ha : a + 1 < s.length) (h : s[a]? = (s[a + 1]?).map sw) : red (s.take a ++ s.drop (a + 2)) = red s := by
  have e : s = s.take a ++ ([s[a], s[a + 1]] ++ s.drop (a + 2)) := by
    rw [show [s[a], s[a + 1]] ++ s.drop (a + 2) = s[a] :: s[a + 1] :: s.drop (a + 2) from rfl, List.getElem_cons_drop, List.getElem_cons_drop, List.take_append_drop]
  rw [List.getElem?_eq_getElem (by omega), List.getElem?_eq_getElem ha] at h
  have h' : s[a] = sw s[a + 1] := Option.some.inj h
  have e2 : E s (s.take a ++ s.drop (a + 2)) := by
    conv => lhs; rw [e]
    refine E.app E.rfl ?_
    rw [h']
    exact E.app (E.pair' _) E.rfl
  exact (red_of_E e2).symm
theorem trivial_comm {l m : List Nat} (h : red l = [] ∨ red m = []) : red (l ++ m) = red (m ++ l) := by
  have key : ∀ l m : List Nat, red l = [] → red (l ++ m) = red (m ++ l) := fun l m h => by
    have e : E l [] := E_of_red h
    refine red_of_E ((E.app e E.rfl).trans ?_)
    have := E.app (E.rfl (l := m)) e.symm
    rw [List.append_nil] at this
    exact this
  rcases h with h | h
  · exact key l m h
  · exact (key m l h).symm
end K

namespace K
/-! powers, in plain words -/
abbrev pw (n : Nat) (x : List Nat) : List Nat := (List.replicate n x).flatten
theorem pw_zero (x : List Nat) : pw 0 x = [] := rfl
theorem pw_succ (n : Nat) (x : List Nat) : pw (n + 1) x = x ++ pw n x := by rw [pw, List.replicate_succ, List.flatten_cons]
theorem pw_comm (n : Nat) (x : List Nat) : x ++ pw n x = pw n x ++ x := by
  induction n with
  | zero => rw [pw_zero, List.append_nil, List.nil_append]
  | succ n ih => rw [pw_succ, List.append_assoc, ← ih]
theorem pw_add (a b : Nat) (x : List Nat) : pw (a + b) x = pw a x ++ pw b x := by
  induction a with
  | zero => simp
  | succ a ih => rw [show a + 1 + b = (a + b) + 1 by omega, pw_succ, pw_succ, ih, List.append_assoc]
theorem pw_mul (a b : Nat) (x : List Nat) : pw a (pw b x) = pw (a * b) x := by
  induction a with
  | zero => rw [Nat.zero_mul, pw_zero, pw_zero]
  | succ a ih => rw [pw_succ, ih, Nat.succ_mul, Nat.add_comm, pw_add]
theorem pw_len (n : Nat) (x : List Nat) : (pw n x).length = n * x.length := by
  induction n with
  | zero => rw [Nat.zero_mul]; rfl
  | succ n ih => rw [pw_succ, List.length_append, ih, Nat.succ_mul, Nat.add_comm]
theorem iv_pw (n : Nat) (x : List Nat) : iv (pw n x) = pw n (iv x) := by
  induction n with
  | zero => rfl
  | succ n ih => rw [pw_succ, iv_app, ih, pw_succ, pw_comm]
/-- who stands before and after c alike -/
def Q (c w : List Nat) : Prop := c ++ w = w ++ c
theorem Q.pw {c w : List Nat} (h : Q c w) : ∀ n : Nat, pw n c ++ w = w ++ pw n c
  | 0 => by rw [pw_zero, List.append_nil, List.nil_append]
  | n + 1 => by rw [pw_succ, List.append_assoc, Q.pw h n, ← List.append_assoc, h, List.append_assoc]
theorem Q.take {c w : List Nat} (hc : c ≠ []) (h : Q c w) {n : Nat} (hn : w.length ≤ n) : w = (K.pw n c).take w.length := by
  have h0 : 0 < c.length := List.length_pos_iff.mpr hc
  have h1 := congrArg (List.take w.length) (Q.pw h n)
  have hl : w.length ≤ (K.pw n c).length := by
    rw [pw_len]
    exact Nat.le_trans hn (Nat.le_mul_of_pos_right n h0)
  rw [List.take_append_of_le_length hl, List.take_left] at h1
  exact h1.symm
theorem Q.rest {c w w' : List Nat} (hc : c ≠ []) (h : Q c w) (h' : Q c w') (hl : w.length ≤ w'.length) : ∃ u, w' = w ++ u ∧ Q c u := by
  have e1 := Q.take hc h (n := w'.length) hl
  have e2 := Q.take hc h' (n := w'.length) (Nat.le_refl _)
  have e3 : w' = w ++ w'.drop w.length := by
    have : w'.take w.length = w := by
      conv => lhs; rw [e2]
      rw [List.take_take, Nat.min_eq_left hl]; exact e1.symm
    conv => lhs; rw [← List.take_append_drop w.length w', this]
  refine ⟨w'.drop w.length, e3, ?_⟩
  unfold Q at h h' ⊢
  rw [e3, ← List.append_assoc, h, List.append_assoc, List.append_assoc] at h'
  exact List.append_cancel_left h'
theorem least {P : Nat → Prop} : ∀ n : Nat, P n → ∃ m, P m ∧ ∀ k, k < m → ¬ P k := by
  intro n
  induction n using Nat.strongRecOn with
  | ind n ih =>
    intro h
    by_cases hk : ∃ k, k < n ∧ P k
    · obtain ⟨k, hk, hp⟩ := hk; exact ih k hk hp
    · exact ⟨n, h, fun k hk' hp => hk ⟨k, hk', hp⟩⟩
theorem isR_of {c x : List Nat} {n : Nat} (hx : x ≠ []) (hn : 0 < n) (h : c = pw n x) : isR c x.length = true ∧ c.take x.length = x ∧ c.length / x.length = n := by
  have h0 : 0 < x.length := List.length_pos_iff.mpr hx
  have hl : c.length = n * x.length := by rw [h, pw_len]
  have ht : c.take x.length = x := by
    obtain ⟨k, rfl⟩ : ∃ k, n = k + 1 := ⟨n - 1, by omega⟩
    rw [h, pw_succ, List.take_left]
  have hd : c.length / x.length = n := by rw [hl, Nat.mul_div_cancel _ h0]
  refine ⟨?_, ht, hd⟩
  unfold isR
  rw [hd, ht, hl, Nat.mul_mod_left]
  simp [← h]
theorem isR_pw {c : List Nat} {s : Nat} (h : isR c s = true) : pw (c.length / s) (c.take s) = c := of_decide_eq_true ((Bool.and_eq_true _ _).mp h).2
/-- what stands alike before and after c is a power of its root -/
theorem W {c v : List Nat} (hc : c ≠ []) (h : Q c v) : ∃ k, v = pw k (c.take (rs c)) := by
  have h0 : 0 < c.length := List.length_pos_iff.mpr hc
  obtain ⟨m, ⟨q, hq1, hq2, hq3⟩, hmin⟩ := least (P := fun m => ∃ q : List Nat, q.length = m ∧ q ≠ [] ∧ Q c q) c.length ⟨c, rfl, hc, rfl⟩
  have hall : ∀ N : Nat, ∀ w : List Nat, w.length ≤ N → Q c w → ∃ k, w = pw k q := by
    intro N
    induction N with
    | zero => intro w hw _; exact ⟨0, List.length_eq_zero_iff.mp (by omega)⟩
    | succ N ih =>
      intro w hw hQ
      by_cases he : w = []
      · exact ⟨0, he⟩
      · have hle : q.length ≤ w.length := by
          rcases Nat.lt_or_ge w.length q.length with hlt | hge
          · exact absurd ⟨w, rfl, he, hQ⟩ (hmin w.length (by omega))
          · exact hge
        obtain ⟨u, hu, hQu⟩ := Q.rest hc hq3 hQ hle
        have hq0 : 0 < q.length := List.length_pos_iff.mpr hq2
        have hlu : w.length = q.length + u.length := by rw [hu, List.length_append]
        obtain ⟨k, hk⟩ := ih u (by omega) hQu
        exact ⟨k + 1, by rw [hu, hk, pw_succ]⟩
  obtain ⟨N, hN⟩ := hall c.length c (Nat.le_refl _) rfl
  have hN0 : 0 < N := by
    rcases Nat.eq_zero_or_pos N with h | h
    · rw [h] at hN; exact absurd hN hc
    · exact h
  obtain ⟨r1, r2, r3⟩ := isR_of hq2 hN0 hN
  have hq0 : 0 < q.length := List.length_pos_iff.mpr hq2
  have hql : q.length ≤ c.length := by rw [hN, pw_len]; exact Nat.le_mul_of_pos_left _ hN0
  obtain ⟨_, _, g1, g2, g3⟩ := rs_head hc
  have hle := rs_min (by omega) hql r1
  have hp : c.take (rs c) ≠ [] := fun z => by
    have := congrArg List.length z
    rw [List.length_take] at this
    have h3 : min (rs c) c.length = 0 := this
    omega
  have hQp : Q c (c.take (rs c)) := by
    have e := isR_pw g3
    unfold Q
    conv => lhs; lhs; rw [← e]
    conv => rhs; rhs; rw [← e]
    exact (pw_comm _ _).symm
  have hge : q.length ≤ rs c := by
    rcases Nat.lt_or_ge (rs c) q.length with hlt | hge
    · refine absurd ⟨c.take (rs c), by rw [List.length_take, Nat.min_eq_left g2], hp, hQp⟩ (hmin (rs c) (by omega))
    · exact hge
  have e : q.length = rs c := by omega
  rw [← e, r2]
  exact hall v.length v (Nat.le_refl _) h
end K

namespace K
/-! the core -/
theorem pair_at {w : List Nat} {j : Nat} (h : j < cn w) : 2 * j + 2 ≤ w.length ∧ w[j]? = (w[w.length - 1 - j]?).map sw := (cn_step (by omega)).mp h
theorem core_split (w : List Nat) : outerOf w ++ coreOf w ++ iv (outerOf w) = w := by
  have hc := cn_le w
  have e : iv (outerOf w) = w.drop (w.length - cn w) := by
    apply List.ext_getElem?
    intro i
    unfold iv outerOf
    rw [List.getElem?_map, List.getElem?_drop]
    by_cases hi : i < cn w
    · have hl : (w.take (cn w)).length = cn w := by rw [List.length_take]; omega
      rw [List.getElem?_reverse (by rw [hl]; exact hi), hl, List.getElem?_take, if_pos (by omega)]
      obtain ⟨_, h2⟩ := pair_at (w := w) (j := cn w - 1 - i) (by omega)
      rw [h2, Option.map_map, show w.length - 1 - (cn w - 1 - i) = w.length - cn w + i by omega]
      have : (sw ∘ sw) = id := by funext c; exact sw_sw c
      rw [this, Option.map_id]; rfl
    · rw [List.getElem?_eq_none (by rw [List.length_reverse, List.length_take]; omega), List.getElem?_eq_none (by omega)]; rfl
  rw [e]
  unfold outerOf coreOf
  have e2 : w.drop (cn w) = (w.drop (cn w)).take (w.length - 2 * cn w) ++ w.drop (w.length - cn w) := by
    conv => lhs; rw [← List.take_append_drop (w.length - 2 * cn w) (w.drop (cn w))]
    rw [List.drop_drop, show cn w + (w.length - 2 * cn w) = w.length - cn w by omega]
  rw [List.append_assoc, ← e2, List.take_append_drop]
theorem core_length (w : List Nat) : (coreOf w).length = w.length - 2 * cn w := by
  have hc := cn_le w
  unfold coreOf; rw [List.length_take, List.length_drop]; omega
theorem outer_length (w : List Nat) : (outerOf w).length = cn w := by
  have hc := cn_le w
  unfold outerOf; rw [List.length_take]; omega
theorem core_ends {w : List Nat} (h : 1 < (coreOf w).length) : ¬ (coreOf w)[0]? = ((coreOf w).getLast?).map sw := by
  have hc := cn_le w
  have hl := core_length w
  intro z
  have hx : ¬ cn w < cn w := Nat.lt_irrefl _
  rw [cn_step (Nat.le_refl _)] at hx
  apply hx
  refine ⟨by omega, ?_⟩
  have e0 : (coreOf w)[0]? = w[cn w]? := by
    unfold coreOf
    rw [List.getElem?_take, if_pos (by omega), List.getElem?_drop]; rfl
  have e1 : (coreOf w).getLast? = w[w.length - 1 - cn w]? := by
    rw [List.getLast?_eq_getElem?, hl]
    unfold coreOf
    rw [List.getElem?_take, if_pos (by omega), List.getElem?_drop]
    congr 1; omega
  rw [e0, e1] at z
  exact z
theorem core_ne {l : List Nat} (h : red l ≠ []) : coreOf (red l) ≠ [] := fun z => by
  have e := core_split (red l)
  rw [z, List.append_nil] at e
  have : red (red l) = [] := by
    conv => lhs; rw [← e]
    exact red_of_E (E.inv _)
  rw [red_red] at this
  exact h this
theorem root_len (w : List Nat) : (rootOf w).length ≤ w.length := by
  unfold rootOf
  refine Nat.le_trans (red_len _) ?_
  have h1 := core_length w
  have h2 := outer_length w
  have h3 := cn_le w
  simp only [List.length_append, List.length_take, iv_len]
  omega
theorem conj_pw (o x : List Nat) : ∀ n : Nat, E (pw n (o ++ x ++ iv o)) (o ++ pw n x ++ iv o)
  | 0 => by
    rw [pw_zero, pw_zero, List.append_nil]
    exact (E.inv o).symm
  | n + 1 => by
    rw [pw_succ, pw_succ]
    refine (E.app E.rfl (conj_pw o x n)).trans ?_
    have e : o ++ x ++ iv o ++ (o ++ pw n x ++ iv o) = (o ++ x) ++ ((iv o ++ o) ++ (pw n x ++ iv o)) := by simp
    have e2 : o ++ (x ++ pw n x) ++ iv o = (o ++ x) ++ ([] ++ (pw n x ++ iv o)) := by simp
    rw [e, e2]
    exact E.app E.rfl (E.app (E.inv' o) E.rfl)
theorem E.pw {l m : List Nat} (h : E l m) : ∀ n : Nat, E (pw n l) (K.pw n m)
  | 0 => E.rfl
  | n + 1 => by rw [pw_succ, pw_succ]; exact E.app h (E.pw h n)
theorem root_E {w : List Nat} (h : coreOf w ≠ []) : E (pw (numOf w) (rootOf w)) w := by
  unfold rootOf numOf
  refine (E.pw (E.red _).symm _).trans ((conj_pw _ _ _).trans ?_)
  obtain ⟨_, _, _, _, g3⟩ := rs_head h
  rw [isR_pw g3, core_split]
  exact E.rfl
theorem root_pow {l : List Nat} (h : red l ≠ []) : red (List.replicate (numOf (red l)) (rootOf (red l))).flatten = red l := by
  have := red_of_E (root_E (core_ne h))
  rw [red_red] at this; exact this
/-! carrying -/
theorem car_E {o d1 d2 q : List Nat} : E ((o ++ iv d1 ++ iv q) ++ (q ++ (d1 ++ d2) ++ iv q) ++ iv (o ++ iv d1 ++ iv q)) (o ++ (d2 ++ d1) ++ iv o) := by
  rw [iv_app, iv_app, iv_iv, iv_iv]
  have e : (o ++ iv d1 ++ iv q) ++ (q ++ (d1 ++ d2) ++ iv q) ++ (q ++ (d1 ++ iv o)) = (o ++ iv d1) ++ ((iv q ++ q) ++ ((d1 ++ d2) ++ ((iv q ++ q) ++ (d1 ++ iv o)))) := by simp
  have e2 : E ((o ++ iv d1) ++ ((iv q ++ q) ++ ((d1 ++ d2) ++ ((iv q ++ q) ++ (d1 ++ iv o))))) ((o ++ iv d1) ++ ([] ++ ((d1 ++ d2) ++ ([] ++ (d1 ++ iv o))))) :=
    E.app E.rfl (E.app (E.inv' q) (E.app E.rfl (E.app (E.inv' q) E.rfl)))
  rw [e]
  refine e2.trans ?_
  have e3 : (o ++ iv d1) ++ ([] ++ ((d1 ++ d2) ++ ([] ++ (d1 ++ iv o)))) = o ++ ((iv d1 ++ d1) ++ (d2 ++ (d1 ++ iv o))) := by simp
  have e4 : o ++ (d2 ++ d1) ++ iv o = o ++ ([] ++ (d2 ++ (d1 ++ iv o))) := by simp
  rw [e3, e4]
  exact E.app E.rfl (E.app (E.inv' d1) E.rfl)
/-! who commutes -/
def C (a b : List Nat) : Prop := E (a ++ b) (b ++ a)
theorem C.symm {a b : List Nat} (h : C a b) : C b a := E.symm h
theorem C.congr {a a' b b' : List Nat} (ha : E a a') (hb : E b b') (h : C a b) : C a' b' := (E.app ha hb).symm.trans (h.trans (E.app hb ha))
theorem C.pw {a b : List Nat} (h : C a b) : ∀ n : Nat, C (pw n a) b
  | 0 => by unfold C; rw [pw_zero, List.append_nil]; exact E.rfl
  | n + 1 => by
    unfold C
    rw [pw_succ, List.append_assoc]
    refine (E.app E.rfl (C.pw h n)).trans ?_
    rw [← List.append_assoc, ← List.append_assoc]
    exact E.app h E.rfl
theorem C.inv {a b : List Nat} (h : C a b) : C (iv a) b := by
  unfold C at h ⊢
  have h1 : E (iv a ++ b) (iv a ++ ((b ++ a) ++ iv a)) := by
    have := E.app (E.rfl (l := iv a ++ b)) (E.inv a).symm
    rw [List.append_nil] at this
    have e : iv a ++ b ++ (a ++ iv a) = iv a ++ ((b ++ a) ++ iv a) := by simp
    rwa [e] at this
  refine h1.trans ((E.app E.rfl (E.app h.symm E.rfl)).trans ?_)
  have e : iv a ++ ((a ++ b) ++ iv a) = (iv a ++ a) ++ (b ++ iv a) := by simp
  rw [e]
  show E _ ([] ++ (b ++ iv a))
  exact E.app (E.inv' a) E.rfl
theorem C.self (a : List Nat) : C a a := E.rfl
theorem comm_of_root {w1 w2 : List Nat} (h1 : coreOf w1 ≠ []) (h2 : coreOf w2 ≠ []) (h : rootOf w1 = rootOf w2 ∨ rootOf w1 = iv (rootOf w2)) : C w1 w2 := by
  refine C.congr (root_E h1) (root_E h2) ?_
  have key : C (rootOf w1) (rootOf w2) := by
    rcases h with h | h
    · rw [h]; exact C.self _
    · rw [h]; exact (C.self _).inv
  exact ((C.pw key (numOf w1)).symm.pw (numOf w2)).symm
end K

namespace K
/-! where two reduced words meet -/
def J (a b : List Nat) : Prop := ∀ x y, a.getLast? = some x → b.head? = some y → x ≠ sw y
theorem NR_app : ∀ {a b : List Nat}, NR (a ++ b) ↔ NR a ∧ NR b ∧ J a b
  | [], b => ⟨fun h => ⟨True.intro, h, fun x y hx => by cases hx⟩, fun h => h.2.1⟩
  | [x], b => by
    cases b with
    | nil => exact ⟨fun h => ⟨h, True.intro, fun x y _ hy => by cases hy⟩, fun h => h.1⟩
    | cons y r =>
      constructor
      · rintro ⟨h1, h2⟩
        exact ⟨True.intro, h2, fun u v hu hv => by cases hu; cases hv; exact h1⟩
      · rintro ⟨_, h2, h3⟩
        exact ⟨h3 x y rfl rfl, h2⟩
  | x :: y :: r, b => by
    have ih := NR_app (a := y :: r) (b := b)
    have el : (x :: y :: r).getLast? = (y :: r).getLast? := rfl
    constructor
    · rintro ⟨h1, h2⟩
      obtain ⟨g1, g2, g3⟩ := ih.mp h2
      exact ⟨⟨h1, g1⟩, g2, fun u v hu hv => g3 u v (by rw [← el]; exact hu) hv⟩
    · rintro ⟨⟨h1, g1⟩, g2, g3⟩
      exact ⟨h1, ih.mpr ⟨g1, g2, fun u v hu hv => g3 u v (by rw [el]; exact hu) hv⟩⟩
theorem last_ex {l : List Nat} (h : l ≠ []) : ∃ x, l.getLast? = some x := ⟨_, List.getLast?_eq_some_getLast h⟩
theorem head_ex {l : List Nat} (h : l ≠ []) : ∃ x, l.head? = some x := by
  cases l with
  | nil => exact absurd rfl h
  | cons a r => exact ⟨a, rfl⟩
theorem iv_head {l : List Nat} : (iv l).head? = l.getLast?.map sw := by
  unfold iv; rw [List.head?_map, List.head?_reverse]
theorem iv_last {l : List Nat} : (iv l).getLast? = l.head?.map sw := by
  unfold iv; rw [List.getLast?_map, List.getLast?_reverse]
theorem iv_ne {l : List Nat} (h : l ≠ []) : iv l ≠ [] := fun z => h (by have := congrArg List.length z; rw [iv_len] at this; exact List.length_eq_zero_iff.mp this)
/-- where they do not meet well, the product is shorter -/
theorem short {a b : List Nat} {x y : Nat} (hx : a.getLast? = some x) (hy : b.head? = some y) (e : x = sw y) : (red (a ++ b)).length < a.length + b.length := by
  obtain ⟨a', rfl⟩ : ∃ a', a = a' ++ [x] := ⟨a.dropLast, by
    have hne : a ≠ [] := fun z => by rw [z] at hx; cases hx
    have := List.dropLast_concat_getLast hne
    rw [List.getLast?_eq_some_getLast hne] at hx
    rw [← Option.some.inj hx]; exact this.symm⟩
  cases b with
  | nil => cases hy
  | cons y' b =>
    have e2 : y' = y := Option.some.inj hy
    subst e2
    have h : E ((a' ++ [x]) ++ (y' :: b)) (a' ++ ([] ++ b)) := by
      have e3 : (a' ++ [x]) ++ (y' :: b) = a' ++ ([x, y'] ++ b) := by simp
      rw [e3, e]
      exact E.app E.rfl (E.app (E.pair' y') E.rfl)
    rw [red_of_E h]
    have := red_len (a' ++ ([] ++ b))
    simp only [List.length_append, List.length_cons, List.length_nil] at this ⊢
    omega
/-- cyclically reduced -/
def Cy (c : List Nat) : Prop := ∀ x y, c.head? = some x → c.getLast? = some y → y ≠ sw x
theorem comm_cases {c v : List Nat} (hc : c ≠ []) (hv : v ≠ []) (nc : NR c) (nv : NR v) (cy : Cy c) (h : C c v) : c ++ v = v ++ c ∨ iv c ++ v = v ++ iv c := by
  obtain ⟨c0, h0⟩ := head_ex hc
  obtain ⟨c1, h1⟩ := last_ex hc
  obtain ⟨v0, g0⟩ := head_ex hv
  obtain ⟨v1, g1⟩ := last_ex hv
  have hcy := cy c0 c1 h0 h1
  have hE : red (c ++ v) = red (v ++ c) := red_of_E h
  have L1 : c1 ≠ sw v0 → red (c ++ v) = c ++ v := fun z => red_of_NR (NR_app.mpr ⟨nc, nv, fun x y hx hy => by
    rw [h1] at hx; rw [g0] at hy; cases hx; cases hy; exact z⟩)
  have L2 : v1 ≠ sw c0 → red (v ++ c) = v ++ c := fun z => red_of_NR (NR_app.mpr ⟨nv, nc, fun x y hx hy => by
    rw [g1] at hx; rw [h0] at hy; cases hx; cases hy; exact z⟩)
  by_cases a1 : c1 = sw v0
  · by_cases a2 : v1 = sw c0
    · right
      have nic := NR_iv nc
      have e1 : red (iv c ++ v) = iv c ++ v := red_of_NR (NR_app.mpr ⟨nic, nv, fun x y hx hy => by
        rw [iv_last, h0] at hx; rw [g0] at hy; cases hx; cases hy
        intro z
        have z2 : c0 = v0 := by have := congrArg sw z; rwa [sw_sw, sw_sw] at this
        exact hcy (by rw [a1, z2])⟩)
      have e2 : red (v ++ iv c) = v ++ iv c := red_of_NR (NR_app.mpr ⟨nv, nic, fun x y hx hy => by
        rw [iv_head, h1] at hy; rw [g1] at hx; cases hx; cases hy
        intro z
        rw [sw_sw] at z
        exact hcy (by rw [← z, a2])⟩)
      rw [← e1, ← e2]
      exact red_of_E h.inv
    · exfalso
      have := short h1 g0 a1
      rw [hE, L2 a2, List.length_append] at this
      omega
  · by_cases a2 : v1 = sw c0
    · exfalso
      have := short g1 h0 a2
      rw [← hE, L1 a1, List.length_append] at this
      omega
    · left
      rw [← L1 a1, ← L2 a2]; exact hE
/-- the core of a word that is told with its core -/
theorem cn_of {o v : List Nat} (hv : v ≠ []) (cy : Cy v) : cn (o ++ v ++ iv o) = o.length := by
  have hl : (o ++ v ++ iv o).length = 2 * o.length + v.length := by simp [iv_len]; omega
  have h0 : 0 < v.length := List.length_pos_iff.mpr hv
  have up : ∀ i, i ≤ o.length → i ≤ cn (o ++ v ++ iv o) := by
    intro i
    induction i with
    | zero => intro _; exact Nat.zero_le _
    | succ i ih =>
      intro hi
      have h1 := ih (by omega)
      refine (cn_step h1).mpr ⟨by omega, ?_⟩
      have e1 : (o ++ v ++ iv o)[i]? = o[i]? := by
        rw [List.append_assoc, List.getElem?_append_left (by omega)]
      have e2 : (o ++ v ++ iv o)[(o ++ v ++ iv o).length - 1 - i]? = (o[i]?).map sw := by
        rw [hl, List.getElem?_append_right (by rw [List.length_append]; omega), List.length_append]
        unfold iv
        rw [List.getElem?_map, List.getElem?_reverse (by omega)]
        congr 2; omega
      rw [e1, e2, Option.map_map]
      have : (sw ∘ sw) = id := by funext c; exact sw_sw c
      rw [this, Option.map_id]; rfl
  have hge := up o.length (Nat.le_refl _)
  rcases Nat.lt_or_ge o.length (cn (o ++ v ++ iv o)) with hlt | hle
  · exfalso
    obtain ⟨h1, h2⟩ := (cn_step hge).mp hlt
    have e1 : (o ++ v ++ iv o)[o.length]? = v.head? := by
      rw [List.append_assoc, List.getElem?_append_right (Nat.le_refl _), Nat.sub_self, List.getElem?_append_left h0, List.head?_eq_getElem?]
    have e2 : (o ++ v ++ iv o)[(o ++ v ++ iv o).length - 1 - o.length]? = v.getLast? := by
      rw [hl, List.getElem?_append_left (by rw [List.length_append]; omega), List.getElem?_append_right (by omega), List.getLast?_eq_getElem?]
      congr 1; omega
    rw [e1, e2] at h2
    obtain ⟨x, hx⟩ := head_ex hv
    obtain ⟨y, hy⟩ := last_ex hv
    rw [hx, hy] at h2
    have h3 : x = sw y := Option.some.inj h2
    exact cy x y hx hy (sw_iff.mp h3)
  · omega
theorem parts_of {o v : List Nat} (hv : v ≠ []) (cy : Cy v) : outerOf (o ++ v ++ iv o) = o ∧ coreOf (o ++ v ++ iv o) = v := by
  have hn := cn_of (o := o) hv cy
  have hl : (o ++ v ++ iv o).length = 2 * o.length + v.length := by simp [iv_len]; omega
  constructor
  · unfold outerOf
    rw [hn, List.append_assoc, List.take_left]
  · unfold coreOf
    rw [hn, hl, List.append_assoc, List.drop_left, show 2 * o.length + v.length - 2 * o.length = v.length by omega, List.take_left]
theorem pw_head {q : List Nat} {k : Nat} (hk : 0 < k) : (pw k q).head? = q.head? := by
  obtain ⟨n, rfl⟩ : ∃ n, k = n + 1 := ⟨k - 1, by omega⟩
  rw [pw_succ]
  cases q with
  | nil => 
    have : pw n [] = [] := by
      have := pw_len n []
      exact List.length_eq_zero_iff.mp (by rw [this]; exact Nat.mul_zero n)
    rw [this]; rfl
  | cons a r => rfl
theorem pw_last {q : List Nat} {k : Nat} (hk : 0 < k) : (pw k q).getLast? = q.getLast? := by
  obtain ⟨n, rfl⟩ : ∃ n, k = n + 1 := ⟨k - 1, by omega⟩
  rw [pw_succ, pw_comm]
  by_cases hq : q = []
  · subst hq
    have : pw n [] = [] := by
      have := pw_len n []
      exact List.length_eq_zero_iff.mp (by rw [this]; exact Nat.mul_zero n)
    rw [this]; rfl
  · obtain ⟨x, hx⟩ := last_ex hq
    rw [List.getLast?_append, hx]; rfl
theorem Cy_core (w : List Nat) : Cy (coreOf w) := by
  intro x y hx hy z
  by_cases h : 1 < (coreOf w).length
  · apply core_ends h
    rw [← List.head?_eq_getElem?, hx, hy, z]
    show some x = some (sw (sw x))
    rw [sw_sw]
  · cases e : coreOf w with
    | nil => rw [e] at hx; cases hx
    | cons a r =>
      rw [e] at h hx hy
      cases r with
      | cons b r => exact h (by simp)
      | nil =>
        cases hx; cases hy
        exact sw_ne _ z.symm
end K

namespace K
theorem conj_C {a b o : List Nat} (h : C a b) : C (iv o ++ a ++ o) (iv o ++ b ++ o) := by
  have key : ∀ x y : List Nat, E ((iv o ++ x ++ o) ++ (iv o ++ y ++ o)) (iv o ++ (x ++ y) ++ o) := by
    intro x y
    have e : (iv o ++ x ++ o) ++ (iv o ++ y ++ o) = (iv o ++ x) ++ ((o ++ iv o) ++ (y ++ o)) := by simp
    have e2 : iv o ++ (x ++ y) ++ o = (iv o ++ x) ++ ([] ++ (y ++ o)) := by simp
    rw [e, e2]
    exact E.app E.rfl (E.app (E.inv o) E.rfl)
  exact (key a b).trans ((E.app (E.app E.rfl h) E.rfl).trans (key b a).symm)
theorem conj_back (o x : List Nat) : E (iv o ++ (o ++ x ++ iv o) ++ o) x := by
  have e : iv o ++ (o ++ x ++ iv o) ++ o = (iv o ++ o) ++ (x ++ (iv o ++ o)) := by simp
  rw [e]
  have := E.app (E.inv' o) (E.app (E.rfl (l := x)) (E.inv' o))
  rw [List.append_nil] at this
  exact this
theorem conj_fwd (o x : List Nat) : E (o ++ (iv o ++ x ++ o) ++ iv o) x := by
  have := conj_back (iv o) x
  rw [iv_iv] at this; exact this
theorem comm_imp {w1 w2 : List Nat} (n1 : NR w1) (n2 : NR w2) (h2 : w2 ≠ []) (hc : coreOf w1 ≠ []) (h : C w1 w2) : rootOf w1 = rootOf w2 ∨ rootOf w1 = iv (rootOf w2) := by
  have es := core_split w1
  have cyc := Cy_core w1
  generalize ho : outerOf w1 = o at es
  generalize hcc : coreOf w1 = c at es hc cyc
  have nw : NR (o ++ (c ++ iv o)) := by rw [← List.append_assoc, es]; exact n1
  obtain ⟨no, nci, joc⟩ := NR_app.mp nw
  obtain ⟨nc, nio, jci⟩ := NR_app.mp nci
  -- the second word seen from the core
  have ev : E w2 (o ++ red (iv o ++ w2 ++ o) ++ iv o) := (conj_fwd o w2).symm.trans (E.app (E.app E.rfl (E.red _)) E.rfl)
  have nv := NR_red (iv o ++ w2 ++ o)
  have hCv : C c (red (iv o ++ w2 ++ o)) := by
    have h1 := conj_C (o := o) h
    have e1 : E (iv o ++ w1 ++ o) c := by rw [← es]; exact conj_back o c
    exact C.congr e1 (E.red _) h1
  generalize red (iv o ++ w2 ++ o) = v at ev nv hCv
  have hv : v ≠ [] := fun z => by
    rw [z, List.append_nil] at ev
    have := red_of_E (ev.trans (E.inv o))
    rw [red_of_NR n2] at this
    exact h2 this
  obtain ⟨_, _, g1, g2, g3⟩ := rs_head hc
  have epc := isR_pw g3
  -- v is a power
  have hpow : ∃ q k, (q = c.take (rs c) ∨ q = iv (c.take (rs c))) ∧ v = pw k q := by
    rcases comm_cases hc hv nc nv cyc hCv with hw | hw
    · obtain ⟨k, hk⟩ := W hc hw
      exact ⟨_, k, .inl rfl, hk⟩
    · have hw2 : Q c (iv v) := by
        have := congrArg iv hw
        rw [iv_app, iv_app, iv_iv] at this
        exact this.symm
      obtain ⟨k, hk⟩ := W hc hw2
      refine ⟨_, k, .inr rfl, ?_⟩
      rw [← iv_pw, ← hk, iv_iv]
  obtain ⟨q, k, hq, hvk⟩ := hpow
  have hk : 0 < k := by
    rcases Nat.eq_zero_or_pos k with z | z
    · rw [z] at hvk; exact absurd hvk hv
    · exact z
  generalize hp : c.take (rs c) = p at hq epc
  have hp0 : p ≠ [] := fun z => by
    have := congrArg List.length hp
    rw [List.length_take, z] at this
    have h3 : min (rs c) c.length = 0 := this
    omega
  have hpl : p.length = rs c := by rw [← hp, List.length_take]; omega
  have hn : 0 < c.length / rs c := Nat.div_pos g2 (by omega)
  have hch : c.head? = p.head? := by rw [← epc]; exact pw_head hn
  have hcl : c.getLast? = p.getLast? := by rw [← epc]; exact pw_last hn
  have hvh : v.head? = q.head? := by rw [hvk]; exact pw_head hk
  have hvl : v.getLast? = q.getLast? := by rw [hvk]; exact pw_last hk
  -- cyclically reduced, and no meeting with o
  obtain ⟨p0, hp1⟩ := head_ex hp0
  obtain ⟨p1, hp2⟩ := last_ex hp0
  have c0 : c.head? = some p0 := hch.trans hp1
  have c1 : c.getLast? = some p1 := hcl.trans hp2
  have hcy := cyc p0 p1 c0 c1
  have jo : ∀ x, o.getLast? = some x → x ≠ sw p0 ∧ x ≠ p1 := by
    intro x hx
    refine ⟨joc x p0 hx (by rw [List.head?_append, c0]; rfl), ?_⟩
    have := jci p1 (sw x) c1 (by rw [iv_head, hx]; rfl)
    rw [sw_sw] at this
    exact fun z => this z.symm
  have facts : Cy v ∧ J o v ∧ J v (iv o) := by
    rcases hq with rfl | rfl
    · refine ⟨fun x y hx hy => ?_, fun x y hx hy => ?_, fun x y hx hy => ?_⟩
      · rw [hvh, hp1] at hx; rw [hvl, hp2] at hy; cases hx; cases hy; exact hcy
      · rw [hvh, hp1] at hy; cases hy; exact (jo x hx).1
      · rw [hvl, hp2] at hx; cases hx
        rw [iv_head] at hy
        obtain ⟨u, hu, rfl⟩ := Option.map_eq_some_iff.mp hy
        rw [sw_sw]
        exact fun z => (jo u hu).2 z.symm
    · have i0 : (iv p).head? = some (sw p1) := by rw [iv_head, hp2]; rfl
      have i1 : (iv p).getLast? = some (sw p0) := by rw [iv_last, hp1]; rfl
      refine ⟨fun x y hx hy => ?_, fun x y hx hy => ?_, fun x y hx hy => ?_⟩
      · rw [hvh, i0] at hx; rw [hvl, i1] at hy; cases hx; cases hy
        rw [sw_sw]
        exact fun z => hcy z.symm
      · rw [hvh, i0] at hy; cases hy
        rw [sw_sw]; exact (jo x hx).2
      · rw [hvl, i1] at hx; cases hx
        rw [iv_head] at hy
        obtain ⟨u, hu, rfl⟩ := Option.map_eq_some_iff.mp hy
        rw [sw_sw]
        exact fun z => (jo u hu).1 z.symm
  obtain ⟨cyv, j1, j2⟩ := facts
  have nwhole : NR (o ++ v ++ iv o) := by
    rw [List.append_assoc]
    refine NR_app.mpr ⟨no, NR_app.mpr ⟨nv, nio, j2⟩, fun x y hx hy => j1 x y hx ?_⟩
    obtain ⟨z, hz⟩ := head_ex hv
    rw [List.head?_append, hz] at hy
    rw [hz]; exact hy
  have ew : w2 = o ++ v ++ iv o := by
    have := red_of_E ev
    rwa [red_of_NR n2, red_of_NR nwhole] at this
  obtain ⟨b1, b2⟩ := parts_of (o := o) hv cyv
  -- the root of v is q
  have hq0 : q ≠ [] := by
    rcases hq with rfl | rfl
    · exact hp0
    · exact iv_ne hp0
  have hql : q.length = p.length := by
    rcases hq with rfl | rfl
    · rfl
    · exact iv_len p
  have hroot : v.take (rs v) = q := by
    have hQ : Q v q := by
      unfold Q
      rw [hvk]; exact (pw_comm _ _).symm
    obtain ⟨j, hj⟩ := W hv hQ
    obtain ⟨_, _, k1, k2, k3⟩ := rs_head hv
    generalize hp' : v.take (rs v) = p' at hj
    have hp'l : p'.length = rs v := by rw [← hp', List.length_take]; omega
    have hp'0 : p' ≠ [] := fun z => by rw [z] at hp'l; simp at hp'l; omega
    have hj0 : 0 < j := by
      rcases Nat.eq_zero_or_pos j with z | z
      · rw [z] at hj; exact absurd hj hq0
      · exact z
    have hcx : ∃ x, x.length = p'.length ∧ c = pw (c.length / rs c * j) x := by
      rcases hq with rfl | rfl
      · exact ⟨p', rfl, by rw [← pw_mul, ← hj, epc]⟩
      · refine ⟨iv p', iv_len p', ?_⟩
        have : p = pw j (iv p') := by rw [← iv_pw, ← hj, iv_iv]
        rw [← pw_mul, ← this, epc]
    obtain ⟨x, hx1, hx2⟩ := hcx
    have hx0 : x ≠ [] := fun z => hp'0 (by rw [z] at hx1; exact List.length_eq_zero_iff.mp hx1.symm)
    have hN : 0 < c.length / rs c * j := Nat.mul_pos hn hj0
    obtain ⟨r1, _, _⟩ := isR_of hx0 hN hx2
    have hx3 : 0 < x.length := List.length_pos_iff.mpr hx0
    have hx4 : x.length ≤ c.length := by
      conv => rhs; rw [hx2]
      rw [pw_len]; exact Nat.le_mul_of_pos_left _ hN
    have hle := rs_min (by omega) hx4 r1
    have hlq : q.length = j * p'.length := by rw [hj, pw_len]
    have hj1 : j = 1 := by
      rw [hql, hpl] at hlq
      rw [hx1] at hle
      rcases Nat.lt_or_ge 1 j with hgt | hle1
      · exfalso
        have : 2 * p'.length ≤ j * p'.length := Nat.mul_le_mul_right _ hgt
        omega
      · omega
    rw [hj, hj1, pw_succ, pw_zero, List.append_nil]
  have hr2 : rootOf w2 = red (o ++ q ++ iv o) := by
    unfold rootOf
    rw [ew, b1, b2, hroot]
  have hr1 : rootOf w1 = red (o ++ p ++ iv o) := by
    unfold rootOf
    rw [ho, hcc, hp]
  rcases hq with rfl | rfl
  · left; rw [hr1, hr2]
  · right
    rw [hr1, hr2, ← red_iv]
    congr 1
    rw [iv_app, iv_app, iv_iv, iv_iv, List.append_assoc]
theorem comm_iff {l m : List Nat} (h1 : red l ≠ []) (h2 : red m ≠ []) : red (l ++ m) = red (m ++ l) ↔ (rootOf (red l) = rootOf (red m) ∨ rootOf (red l) = iv (rootOf (red m))) := by
  constructor
  · intro h
    have hC : C (red l) (red m) := C.congr (E.red l) (E.red m) (E_of_red h)
    exact comm_imp (NR_red l) (NR_red m) h2 (core_ne h1) hC
  · intro h
    have := comm_of_root (core_ne h1) (core_ne h2) h
    exact red_of_E (C.congr (E.red l).symm (E.red m).symm this)
end K


namespace K
open PySem PySem.Spec PyProof.Rows L2 TK
def topS (i : Nat) : Stmt := PySem.Challenge.pw_stringbench_k73_reduced_signed_words.main.body.getD i (.Pass ⟨0, 0, 0, 0⟩)
abbrev s_is_signed : Stmt := topS 8
def d_is_signed : He.DefD := ⟨("is_signed", none), "is_signed", "is_signed", defArgs s_is_signed, defBody s_is_signed, defScope s_is_signed, [], []⟩
def N_is_signed : List Str := [("value" : Str), ("sign" : Str)]
abbrev s_check_signed : Stmt := topS 9
def d_check_signed : He.DefD := ⟨("check_signed", none), "check_signed", "check_signed", defArgs s_check_signed, defBody s_check_signed, defScope s_check_signed, [], []⟩
def N_check_signed : List Str := [("value" : Str)]
abbrev s_reduced_of : Stmt := topS 10
def d_reduced_of : He.DefD := ⟨("reduced_of", none), "reduced_of", "reduced_of", defArgs s_reduced_of, defBody s_reduced_of, defScope s_reduced_of, [], []⟩
def N_reduced_of : List Str := [("signed" : Str), ("found" : Str), ("sign" : Str)]
abbrev s_reduced : Stmt := topS 11
def d_reduced : He.DefD := ⟨("reduced", none), "reduced", "reduced", defArgs s_reduced, defBody s_reduced, defScope s_reduced, [], []⟩
def N_reduced : List Str := [("signed" : Str)]
abbrev s_undone_of : Stmt := topS 12
def d_undone_of : He.DefD := ⟨("undone_of", none), "undone_of", "undone_of", defArgs s_undone_of, defBody s_undone_of, defScope s_undone_of, [], []⟩
def N_undone_of : List Str := [("signed" : Str)]
abbrev s_undone : Stmt := topS 13
def d_undone : He.DefD := ⟨("undone", none), "undone", "undone", defArgs s_undone, defBody s_undone, defScope s_undone, [], []⟩
def N_undone : List Str := [("signed" : Str)]
abbrev s_signed_product : Stmt := topS 14
def d_signed_product : He.DefD := ⟨("signed_product", none), "signed_product", "signed_product", defArgs s_signed_product, defBody s_signed_product, defScope s_signed_product, [], []⟩
def N_signed_product : List Str := [("one" : Str), ("other" : Str)]
abbrev s_core_in : Stmt := topS 15
def d_core_in : He.DefD := ⟨("core_in", none), "core_in", "core_in", defArgs s_core_in, defBody s_core_in, defScope s_core_in, [], []⟩
def N_core_in : List Str := [("word" : Str), ("size" : Str)]
abbrev s_core_of : Stmt := topS 16
def d_core_of : He.DefD := ⟨("core_of", none), "core_of", "core_of", defArgs s_core_of, defBody s_core_of, defScope s_core_of, [], []⟩
def N_core_of : List Str := [("signed" : Str)]
abbrev s_carried : Stmt := topS 17
def d_carried : He.DefD := ⟨("carried", none), "carried", "carried", defArgs s_carried, defBody s_carried, defScope s_carried, [], []⟩
def N_carried : List Str := [("one" : Str), ("other" : Str), ("turn" : Str), ("first" : Str), ("core" : Str), ("second" : Str), ("other_core" : Str)]
abbrev s_root_in : Stmt := topS 18
def d_root_in : He.DefD := ⟨("root_in", none), "root_in", "root_in", defArgs s_root_in, defBody s_root_in, defScope s_root_in, [], []⟩
def N_root_in : List Str := [("word" : Str), ("sizes" : Str), ("size" : Str), ("ahead" : Str), ("core" : Str)]
abbrev s_signed_root : Stmt := topS 19
def d_signed_root : He.DefD := ⟨("signed_root", none), "signed_root", "signed_root", defArgs s_signed_root, defBody s_signed_root, defScope s_signed_root, [], []⟩
def N_signed_root : List Str := [("signed" : Str), ("word" : Str)]
abbrev s__law_cell : Stmt := topS 21
def d__law_cell : He.DefD := ⟨("_law_cell", none), "_law_cell", "_law_cell", defArgs s__law_cell, defBody s__law_cell, defScope s__law_cell, [], []⟩
def N__law_cell : List Str := [("script" : Str), ("k" : Str)]
abbrev s__law_box : Stmt := topS 22
def d__law_box : He.DefD := ⟨("_law_box", none), "_law_box", "_law_box", defArgs s__law_box, defBody s__law_box, defScope s__law_box, [], []⟩
def N__law_box : List Str := [("great" : Str)]
abbrev s__law_take : Stmt := topS 23
def d__law_take : He.DefD := ⟨("_law_take", none), "_law_take", "_law_take", defArgs s__law_take, defBody s__law_take, defScope s__law_take, [], []⟩
def N__law_take : List Str := [("box" : Str), ("many" : Str), ("mixed" : Str), ("digit" : Str)]
abbrev s__law_same : Stmt := topS 24
def d__law_same : He.DefD := ⟨("_law_same", none), "_law_same", "_law_same", defArgs s__law_same, defBody s__law_same, defScope s__law_same, [], []⟩
def N__law_same : List Str := [("told" : Str), ("due" : Str), ("k" : Str), ("key" : Str)]
abbrev s__law_very : Stmt := topS 25
def d__law_very : He.DefD := ⟨("_law_very", none), "_law_very", "_law_very", defArgs s__law_very, defBody s__law_very, defScope s__law_very, [], []⟩
def N__law_very : List Str := [("given" : Str), ("value" : Str)]
abbrev s__law_turn : Stmt := topS 26
def d__law_turn : He.DefD := ⟨("_law_turn", none), "_law_turn", "_law_turn", defArgs s__law_turn, defBody s__law_turn, defScope s__law_turn, [], []⟩
def N__law_turn : List Str := [("signs" : Str), ("sign" : Str)]
abbrev s__law_reduce : Stmt := topS 27
def d__law_reduce : He.DefD := ⟨("_law_reduce", none), "_law_reduce", "_law_reduce", defArgs s__law_reduce, defBody s__law_reduce, defScope s__law_reduce, [], []⟩
def N__law_reduce : List Str := [("signed" : Str), ("found" : Str), ("sign" : Str)]
abbrev s__law_undo : Stmt := topS 28
def d__law_undo : He.DefD := ⟨("_law_undo", none), "_law_undo", "_law_undo", defArgs s__law_undo, defBody s__law_undo, defScope s__law_undo, [], []⟩
def N__law_undo : List Str := [("signed" : Str)]
abbrev s__law_signed : Stmt := topS 29
def d__law_signed : He.DefD := ⟨("_law_signed", none), "_law_signed", "_law_signed", defArgs s__law_signed, defBody s__law_signed, defScope s__law_signed, [], []⟩
def N__law_signed : List Str := [("box" : Str), ("letters" : Str), ("most" : Str), ("signs" : Str), ("word" : Str), ("at" : Str), ("sign" : Str), ("k" : Str)]
abbrev s__law_bad_signed : Stmt := topS 30
def d__law_bad_signed : He.DefD := ⟨("_law_bad_signed", none), "_law_bad_signed", "_law_bad_signed", defArgs s__law_bad_signed, defBody s__law_bad_signed, defScope s__law_bad_signed, [], []⟩
def N__law_bad_signed : List Str := [("box" : Str)]
abbrev s__law_ask : Stmt := topS 31
def d__law_ask : He.DefD := ⟨("_law_ask", none), "_law_ask", "_law_ask", defArgs s__law_ask, defBody s__law_ask, defScope s__law_ask, [], []⟩
def N__law_ask : List Str := [("word" : Str), ("args" : Str), ("named" : Str), ("e" : Str), ("doors" : Str), ("door" : Str)]
abbrev s__law_twice : Stmt := topS 32
def d__law_twice : He.DefD := ⟨("_law_twice", none), "_law_twice", "_law_twice", defArgs s__law_twice, defBody s__law_twice, defScope s__law_twice, [], []⟩
def N__law_twice : List Str := [("word" : Str), ("args" : Str), ("due" : Str), ("named" : Str)]
abbrev s__law_taken : Stmt := topS 33
def d__law_taken : He.DefD := ⟨("_law_taken", none), "_law_taken", "_law_taken", defArgs s__law_taken, defBody s__law_taken, defScope s__law_taken, [], []⟩
def N__law_taken : List Str := [("box" : Str), ("signed" : Str), ("turn" : Str), ("places" : Str), ("at" : Str)]
abbrev s__law_core : Stmt := topS 34
def d__law_core : He.DefD := ⟨("_law_core", none), "_law_core", "_law_core", defArgs s__law_core, defBody s__law_core, defScope s__law_core, [], []⟩
def N__law_core : List Str := [("word" : Str), ("size" : Str), ("turn" : Str)]
abbrev s__law_root : Stmt := topS 35
def d__law_root : He.DefD := ⟨("_law_root", none), "_law_root", "_law_root", defArgs s__law_root, defBody s__law_root, defScope s__law_root, [], []⟩
def N__law_root : List Str := [("word" : Str), ("size" : Str), ("outer" : Str), ("core" : Str), ("some" : Str)]
abbrev s__law_word_right : Stmt := topS 36
def d__law_word_right : He.DefD := ⟨("_law_word_right", none), "_law_word_right", "_law_word_right", defArgs s__law_word_right, defBody s__law_word_right, defScope s__law_word_right, [], []⟩
def N__law_word_right : List Str := [("box" : Str), ("signed" : Str), ("named" : Str), ("word" : Str), ("back" : Str), ("outer" : Str), ("core" : Str), ("kind" : Str), ("due" : Str), ("root" : Str), ("number" : Str)]
abbrev s__law_two_right : Stmt := topS 37
def d__law_two_right : He.DefD := ⟨("_law_two_right", none), "_law_two_right", "_law_two_right", defArgs s__law_two_right, defBody s__law_two_right, defScope s__law_two_right, [], []⟩
def N__law_two_right : List Str := [("one" : Str), ("other" : Str), ("named" : Str), ("turned" : Str), ("told" : Str), ("same" : Str), ("first" : Str), ("second" : Str), ("core" : Str), ("near" : Str), ("z" : Str), ("sign" : Str)]
abbrev s__law_refused : Stmt := topS 38
def d__law_refused : He.DefD := ⟨("_law_refused", none), "_law_refused", "_law_refused", defArgs s__law_refused, defBody s__law_refused, defScope s__law_refused, [], []⟩
def N__law_refused : List Str := [("box" : Str), ("word" : Str), ("turn" : Str), ("value" : Str), ("told" : Str)]
abbrev s_law : Stmt := topS 39
def d_law : He.DefD := ⟨("law", none), "law", "law", defArgs s_law, defBody s_law, defScope s_law, [], []⟩
def N_law : List Str := [("script" : Str), ("k" : Str), ("box" : Str), ("most" : Str), ("core" : Str), ("at" : Str), ("power" : Str), ("words" : Str), ("some" : Str), ("named" : Str), ("letters" : Str), ("word" : Str), ("z" : Str), ("root" : Str), ("one" : Str), ("other" : Str)]
abbrev s_InvalidSigned : Stmt := inClass (topS 2) 0
def d_InvalidSigned : He.DefD := ⟨("InvalidSigned", some "__init__"), "__init__", "InvalidSigned.__init__", defArgs s_InvalidSigned, defBody s_InvalidSigned, defScope s_InvalidSigned, [], []⟩
def fn : List He.DefD := [d_is_signed, d_check_signed, d_reduced_of, d_reduced, d_undone_of, d_undone, d_signed_product, d_core_in, d_core_of, d_carried, d_root_in, d_signed_root, d__law_cell, d__law_box, d__law_take, d__law_same, d__law_very, d__law_turn, d__law_reduce, d__law_undo, d__law_signed, d__law_bad_signed, d__law_ask, d__law_twice, d__law_taken, d__law_core, d__law_root, d__law_word_right, d__law_two_right, d__law_refused, d_law, d_InvalidSigned]
def fa0 : List He.Fa := [.glo "is_signed", .glo "check_signed", .glo "reduced_of", .glo "reduced", .glo "undone_of", .glo "undone", .glo "signed_product", .glo "core_in", .glo "core_of", .glo "carried", .glo "root_in", .glo "signed_root", .glo "_law_cell", .glo "_law_box", .glo "_law_take", .glo "_law_same", .glo "_law_very", .glo "_law_turn", .glo "_law_reduce", .glo "_law_undo", .glo "_law_signed", .glo "_law_bad_signed", .glo "_law_ask", .glo "_law_twice", .glo "_law_taken"]
def fa1 : List He.Fa := [.glo "_law_core", .glo "_law_root", .glo "_law_word_right", .glo "_law_two_right", .glo "_law_refused", .glo "law", .glo "StringError", .glo "InvalidSigned", .glo "Empty", .free "abs", .free "all", .free "bool", .free "dict", .free "int", .free "isinstance", .free "len", .free "list", .free "max", .free "min", .free "range", .free "str", .free "sum", .free "tuple", .str "SIGNS" "abcABC", .int "MOST_SIGNED" 60]
def fa2 : List He.Fa := [.exm "StringError" "StringError" true, .exm "StringError" "InvalidSigned" false, .exm "StringError" "Empty" false, .exm "InvalidSigned" "StringError" true, .exm "InvalidSigned" "InvalidSigned" true, .exm "InvalidSigned" "Empty" false, .exm "Empty" "StringError" true, .exm "Empty" "InvalidSigned" false, .exm "Empty" "Empty" true, .exc "StringError", .exc "Empty", .noat "InvalidSigned" "given"]
def fa : List He.Fa := fa0 ++ fa1 ++ fa2
def exB (K : PySem.W.Frag) : Bool := (oexB K (He.ga K "InvalidSigned") && (iniB K (He.ga K "InvalidSigned") && xfB K (He.ga K "InvalidSigned")))
abbrev Hk (K : PySem.W.Frag) (mg : Str → Option Value) : Prop := Hx fa fn exB K mg
section
variable {K : PySem.W.Frag} {mg : Str → Option Value}
theorem _root_.TK.Hx.g_is_signed (T : Hk K mg) : mg "is_signed" = some (.ref (He.ga K "is_signed")) := Hx.gl T 0
theorem _root_.TK.Hx.g_check_signed (T : Hk K mg) : mg "check_signed" = some (.ref (He.ga K "check_signed")) := Hx.gl T 1
theorem _root_.TK.Hx.g_reduced_of (T : Hk K mg) : mg "reduced_of" = some (.ref (He.ga K "reduced_of")) := Hx.gl T 2
theorem _root_.TK.Hx.g_reduced (T : Hk K mg) : mg "reduced" = some (.ref (He.ga K "reduced")) := Hx.gl T 3
theorem _root_.TK.Hx.g_undone_of (T : Hk K mg) : mg "undone_of" = some (.ref (He.ga K "undone_of")) := Hx.gl T 4
theorem _root_.TK.Hx.g_undone (T : Hk K mg) : mg "undone" = some (.ref (He.ga K "undone")) := Hx.gl T 5
theorem _root_.TK.Hx.g_signed_product (T : Hk K mg) : mg "signed_product" = some (.ref (He.ga K "signed_product")) := Hx.gl T 6
theorem _root_.TK.Hx.g_core_in (T : Hk K mg) : mg "core_in" = some (.ref (He.ga K "core_in")) := Hx.gl T 7
theorem _root_.TK.Hx.g_core_of (T : Hk K mg) : mg "core_of" = some (.ref (He.ga K "core_of")) := Hx.gl T 8
theorem _root_.TK.Hx.g_carried (T : Hk K mg) : mg "carried" = some (.ref (He.ga K "carried")) := Hx.gl T 9
theorem _root_.TK.Hx.g_root_in (T : Hk K mg) : mg "root_in" = some (.ref (He.ga K "root_in")) := Hx.gl T 10
theorem _root_.TK.Hx.g_signed_root (T : Hk K mg) : mg "signed_root" = some (.ref (He.ga K "signed_root")) := Hx.gl T 11
theorem _root_.TK.Hx.g__law_cell (T : Hk K mg) : mg "_law_cell" = some (.ref (He.ga K "_law_cell")) := Hx.gl T 12
theorem _root_.TK.Hx.g__law_box (T : Hk K mg) : mg "_law_box" = some (.ref (He.ga K "_law_box")) := Hx.gl T 13
theorem _root_.TK.Hx.g__law_take (T : Hk K mg) : mg "_law_take" = some (.ref (He.ga K "_law_take")) := Hx.gl T 14
theorem _root_.TK.Hx.g__law_same (T : Hk K mg) : mg "_law_same" = some (.ref (He.ga K "_law_same")) := Hx.gl T 15
theorem _root_.TK.Hx.g__law_very (T : Hk K mg) : mg "_law_very" = some (.ref (He.ga K "_law_very")) := Hx.gl T 16
theorem _root_.TK.Hx.g__law_turn (T : Hk K mg) : mg "_law_turn" = some (.ref (He.ga K "_law_turn")) := Hx.gl T 17
theorem _root_.TK.Hx.g__law_reduce (T : Hk K mg) : mg "_law_reduce" = some (.ref (He.ga K "_law_reduce")) := Hx.gl T 18
theorem _root_.TK.Hx.g__law_undo (T : Hk K mg) : mg "_law_undo" = some (.ref (He.ga K "_law_undo")) := Hx.gl T 19
theorem _root_.TK.Hx.g__law_signed (T : Hk K mg) : mg "_law_signed" = some (.ref (He.ga K "_law_signed")) := Hx.gl T 20
theorem _root_.TK.Hx.g__law_bad_signed (T : Hk K mg) : mg "_law_bad_signed" = some (.ref (He.ga K "_law_bad_signed")) := Hx.gl T 21
theorem _root_.TK.Hx.g__law_ask (T : Hk K mg) : mg "_law_ask" = some (.ref (He.ga K "_law_ask")) := Hx.gl T 22
theorem _root_.TK.Hx.g__law_twice (T : Hk K mg) : mg "_law_twice" = some (.ref (He.ga K "_law_twice")) := Hx.gl T 23
theorem _root_.TK.Hx.g__law_taken (T : Hk K mg) : mg "_law_taken" = some (.ref (He.ga K "_law_taken")) := Hx.gl T 24
theorem _root_.TK.Hx.g__law_core (T : Hk K mg) : mg "_law_core" = some (.ref (He.ga K "_law_core")) := Hx.gl T 25
theorem _root_.TK.Hx.g__law_root (T : Hk K mg) : mg "_law_root" = some (.ref (He.ga K "_law_root")) := Hx.gl T 26
theorem _root_.TK.Hx.g__law_word_right (T : Hk K mg) : mg "_law_word_right" = some (.ref (He.ga K "_law_word_right")) := Hx.gl T 27
theorem _root_.TK.Hx.g__law_two_right (T : Hk K mg) : mg "_law_two_right" = some (.ref (He.ga K "_law_two_right")) := Hx.gl T 28
theorem _root_.TK.Hx.g__law_refused (T : Hk K mg) : mg "_law_refused" = some (.ref (He.ga K "_law_refused")) := Hx.gl T 29
theorem _root_.TK.Hx.g_law (T : Hk K mg) : mg "law" = some (.ref (He.ga K "law")) := Hx.gl T 30
theorem _root_.TK.Hx.g_StringError (T : Hk K mg) : mg "StringError" = some (.ref (He.ga K "StringError")) := Hx.gl T 31
theorem _root_.TK.Hx.g_InvalidSigned (T : Hk K mg) : mg "InvalidSigned" = some (.ref (He.ga K "InvalidSigned")) := Hx.gl T 32
theorem _root_.TK.Hx.g_Empty (T : Hk K mg) : mg "Empty" = some (.ref (He.ga K "Empty")) := Hx.gl T 33
theorem _root_.TK.Hx.n_abs (T : Hk K mg) : mg "abs" = none := Hx.fr T 34
theorem _root_.TK.Hx.n_all (T : Hk K mg) : mg "all" = none := Hx.fr T 35
theorem _root_.TK.Hx.n_bool (T : Hk K mg) : mg "bool" = none := Hx.fr T 36
theorem _root_.TK.Hx.n_dict (T : Hk K mg) : mg "dict" = none := Hx.fr T 37
theorem _root_.TK.Hx.n_int (T : Hk K mg) : mg "int" = none := Hx.fr T 38
theorem _root_.TK.Hx.n_isinstance (T : Hk K mg) : mg "isinstance" = none := Hx.fr T 39
theorem _root_.TK.Hx.n_len (T : Hk K mg) : mg "len" = none := Hx.fr T 40
theorem _root_.TK.Hx.n_list (T : Hk K mg) : mg "list" = none := Hx.fr T 41
theorem _root_.TK.Hx.n_max (T : Hk K mg) : mg "max" = none := Hx.fr T 42
theorem _root_.TK.Hx.n_min (T : Hk K mg) : mg "min" = none := Hx.fr T 43
theorem _root_.TK.Hx.n_range (T : Hk K mg) : mg "range" = none := Hx.fr T 44
theorem _root_.TK.Hx.n_str (T : Hk K mg) : mg "str" = none := Hx.fr T 45
theorem _root_.TK.Hx.n_sum (T : Hk K mg) : mg "sum" = none := Hx.fr T 46
theorem _root_.TK.Hx.n_tuple (T : Hk K mg) : mg "tuple" = none := Hx.fr T 47
theorem _root_.TK.Hx.c_SIGNS (T : Hk K mg) : ∃ u, mg "SIGNS" = some u ∧ RelV (.str "abcABC") u := Hx.st T 48
theorem _root_.TK.Hx.c_MOST_SIGNED (T : Hk K mg) : ∃ u, mg "MOST_SIGNED" = some u ∧ RelV (.int 60) u := Hx.in T 49
theorem _root_.TK.Hx.x_StringError_StringError (T : Hk K mg) : PySem.W.exmOne K (.ref (He.ga K "StringError")) (.ref (He.ga K "StringError")) = some true := Hx.xm T 50
theorem _root_.TK.Hx.x_StringError_InvalidSigned (T : Hk K mg) : PySem.W.exmOne K (.ref (He.ga K "StringError")) (.ref (He.ga K "InvalidSigned")) = some false := Hx.xm T 51
theorem _root_.TK.Hx.x_StringError_Empty (T : Hk K mg) : PySem.W.exmOne K (.ref (He.ga K "StringError")) (.ref (He.ga K "Empty")) = some false := Hx.xm T 52
theorem _root_.TK.Hx.x_InvalidSigned_StringError (T : Hk K mg) : PySem.W.exmOne K (.ref (He.ga K "InvalidSigned")) (.ref (He.ga K "StringError")) = some true := Hx.xm T 53
theorem _root_.TK.Hx.x_InvalidSigned_InvalidSigned (T : Hk K mg) : PySem.W.exmOne K (.ref (He.ga K "InvalidSigned")) (.ref (He.ga K "InvalidSigned")) = some true := Hx.xm T 54
theorem _root_.TK.Hx.x_InvalidSigned_Empty (T : Hk K mg) : PySem.W.exmOne K (.ref (He.ga K "InvalidSigned")) (.ref (He.ga K "Empty")) = some false := Hx.xm T 55
theorem _root_.TK.Hx.x_Empty_StringError (T : Hk K mg) : PySem.W.exmOne K (.ref (He.ga K "Empty")) (.ref (He.ga K "StringError")) = some true := Hx.xm T 56
theorem _root_.TK.Hx.x_Empty_InvalidSigned (T : Hk K mg) : PySem.W.exmOne K (.ref (He.ga K "Empty")) (.ref (He.ga K "InvalidSigned")) = some false := Hx.xm T 57
theorem _root_.TK.Hx.x_Empty_Empty (T : Hk K mg) : PySem.W.exmOne K (.ref (He.ga K "Empty")) (.ref (He.ga K "Empty")) = some true := Hx.xm T 58
theorem _root_.TK.Hx.no_InvalidSigned_given (T : Hk K mg) : PySem.W.findIn K (.ref (He.ga K "InvalidSigned")) "given" = some none := He.noat_ok (T.says.fact 61)
theorem _root_.TK.Hx.dd_is_signed (T : Hk K mg) : ∃ fd, FunD K "is_signed" "is_signed" (defArgs s_is_signed) (defBody s_is_signed) (defScope s_is_signed) [] [] (He.ga K "is_signed") fd := T.says.def_ 0 (d := d_is_signed) rfl
theorem _root_.TK.Hx.dd_check_signed (T : Hk K mg) : ∃ fd, FunD K "check_signed" "check_signed" (defArgs s_check_signed) (defBody s_check_signed) (defScope s_check_signed) [] [] (He.ga K "check_signed") fd := T.says.def_ 1 (d := d_check_signed) rfl
theorem _root_.TK.Hx.dd_reduced_of (T : Hk K mg) : ∃ fd, FunD K "reduced_of" "reduced_of" (defArgs s_reduced_of) (defBody s_reduced_of) (defScope s_reduced_of) [] [] (He.ga K "reduced_of") fd := T.says.def_ 2 (d := d_reduced_of) rfl
theorem _root_.TK.Hx.dd_reduced (T : Hk K mg) : ∃ fd, FunD K "reduced" "reduced" (defArgs s_reduced) (defBody s_reduced) (defScope s_reduced) [] [] (He.ga K "reduced") fd := T.says.def_ 3 (d := d_reduced) rfl
theorem _root_.TK.Hx.dd_undone_of (T : Hk K mg) : ∃ fd, FunD K "undone_of" "undone_of" (defArgs s_undone_of) (defBody s_undone_of) (defScope s_undone_of) [] [] (He.ga K "undone_of") fd := T.says.def_ 4 (d := d_undone_of) rfl
theorem _root_.TK.Hx.dd_undone (T : Hk K mg) : ∃ fd, FunD K "undone" "undone" (defArgs s_undone) (defBody s_undone) (defScope s_undone) [] [] (He.ga K "undone") fd := T.says.def_ 5 (d := d_undone) rfl
theorem _root_.TK.Hx.dd_signed_product (T : Hk K mg) : ∃ fd, FunD K "signed_product" "signed_product" (defArgs s_signed_product) (defBody s_signed_product) (defScope s_signed_product) [] [] (He.ga K "signed_product") fd := T.says.def_ 6 (d := d_signed_product) rfl
theorem _root_.TK.Hx.dd_core_in (T : Hk K mg) : ∃ fd, FunD K "core_in" "core_in" (defArgs s_core_in) (defBody s_core_in) (defScope s_core_in) [] [] (He.ga K "core_in") fd := T.says.def_ 7 (d := d_core_in) rfl
theorem _root_.TK.Hx.dd_core_of (T : Hk K mg) : ∃ fd, FunD K "core_of" "core_of" (defArgs s_core_of) (defBody s_core_of) (defScope s_core_of) [] [] (He.ga K "core_of") fd := T.says.def_ 8 (d := d_core_of) rfl
theorem _root_.TK.Hx.dd_carried (T : Hk K mg) : ∃ fd, FunD K "carried" "carried" (defArgs s_carried) (defBody s_carried) (defScope s_carried) [] [] (He.ga K "carried") fd := T.says.def_ 9 (d := d_carried) rfl
theorem _root_.TK.Hx.dd_root_in (T : Hk K mg) : ∃ fd, FunD K "root_in" "root_in" (defArgs s_root_in) (defBody s_root_in) (defScope s_root_in) [] [] (He.ga K "root_in") fd := T.says.def_ 10 (d := d_root_in) rfl
theorem _root_.TK.Hx.dd_signed_root (T : Hk K mg) : ∃ fd, FunD K "signed_root" "signed_root" (defArgs s_signed_root) (defBody s_signed_root) (defScope s_signed_root) [] [] (He.ga K "signed_root") fd := T.says.def_ 11 (d := d_signed_root) rfl
theorem _root_.TK.Hx.dd__law_cell (T : Hk K mg) : ∃ fd, FunD K "_law_cell" "_law_cell" (defArgs s__law_cell) (defBody s__law_cell) (defScope s__law_cell) [] [] (He.ga K "_law_cell") fd := T.says.def_ 12 (d := d__law_cell) rfl
theorem _root_.TK.Hx.dd__law_box (T : Hk K mg) : ∃ fd, FunD K "_law_box" "_law_box" (defArgs s__law_box) (defBody s__law_box) (defScope s__law_box) [] [] (He.ga K "_law_box") fd := T.says.def_ 13 (d := d__law_box) rfl
theorem _root_.TK.Hx.dd__law_take (T : Hk K mg) : ∃ fd, FunD K "_law_take" "_law_take" (defArgs s__law_take) (defBody s__law_take) (defScope s__law_take) [] [] (He.ga K "_law_take") fd := T.says.def_ 14 (d := d__law_take) rfl
theorem _root_.TK.Hx.dd__law_same (T : Hk K mg) : ∃ fd, FunD K "_law_same" "_law_same" (defArgs s__law_same) (defBody s__law_same) (defScope s__law_same) [] [] (He.ga K "_law_same") fd := T.says.def_ 15 (d := d__law_same) rfl
theorem _root_.TK.Hx.dd__law_very (T : Hk K mg) : ∃ fd, FunD K "_law_very" "_law_very" (defArgs s__law_very) (defBody s__law_very) (defScope s__law_very) [] [] (He.ga K "_law_very") fd := T.says.def_ 16 (d := d__law_very) rfl
theorem _root_.TK.Hx.dd__law_turn (T : Hk K mg) : ∃ fd, FunD K "_law_turn" "_law_turn" (defArgs s__law_turn) (defBody s__law_turn) (defScope s__law_turn) [] [] (He.ga K "_law_turn") fd := T.says.def_ 17 (d := d__law_turn) rfl
theorem _root_.TK.Hx.dd__law_reduce (T : Hk K mg) : ∃ fd, FunD K "_law_reduce" "_law_reduce" (defArgs s__law_reduce) (defBody s__law_reduce) (defScope s__law_reduce) [] [] (He.ga K "_law_reduce") fd := T.says.def_ 18 (d := d__law_reduce) rfl
theorem _root_.TK.Hx.dd__law_undo (T : Hk K mg) : ∃ fd, FunD K "_law_undo" "_law_undo" (defArgs s__law_undo) (defBody s__law_undo) (defScope s__law_undo) [] [] (He.ga K "_law_undo") fd := T.says.def_ 19 (d := d__law_undo) rfl
theorem _root_.TK.Hx.dd__law_signed (T : Hk K mg) : ∃ fd, FunD K "_law_signed" "_law_signed" (defArgs s__law_signed) (defBody s__law_signed) (defScope s__law_signed) [] [] (He.ga K "_law_signed") fd := T.says.def_ 20 (d := d__law_signed) rfl
theorem _root_.TK.Hx.dd__law_bad_signed (T : Hk K mg) : ∃ fd, FunD K "_law_bad_signed" "_law_bad_signed" (defArgs s__law_bad_signed) (defBody s__law_bad_signed) (defScope s__law_bad_signed) [] [] (He.ga K "_law_bad_signed") fd := T.says.def_ 21 (d := d__law_bad_signed) rfl
theorem _root_.TK.Hx.dd__law_ask (T : Hk K mg) : ∃ fd, FunD K "_law_ask" "_law_ask" (defArgs s__law_ask) (defBody s__law_ask) (defScope s__law_ask) [] [] (He.ga K "_law_ask") fd := T.says.def_ 22 (d := d__law_ask) rfl
theorem _root_.TK.Hx.dd__law_twice (T : Hk K mg) : ∃ fd, FunD K "_law_twice" "_law_twice" (defArgs s__law_twice) (defBody s__law_twice) (defScope s__law_twice) [] [] (He.ga K "_law_twice") fd := T.says.def_ 23 (d := d__law_twice) rfl
theorem _root_.TK.Hx.dd__law_taken (T : Hk K mg) : ∃ fd, FunD K "_law_taken" "_law_taken" (defArgs s__law_taken) (defBody s__law_taken) (defScope s__law_taken) [] [] (He.ga K "_law_taken") fd := T.says.def_ 24 (d := d__law_taken) rfl
theorem _root_.TK.Hx.dd__law_core (T : Hk K mg) : ∃ fd, FunD K "_law_core" "_law_core" (defArgs s__law_core) (defBody s__law_core) (defScope s__law_core) [] [] (He.ga K "_law_core") fd := T.says.def_ 25 (d := d__law_core) rfl
theorem _root_.TK.Hx.dd__law_root (T : Hk K mg) : ∃ fd, FunD K "_law_root" "_law_root" (defArgs s__law_root) (defBody s__law_root) (defScope s__law_root) [] [] (He.ga K "_law_root") fd := T.says.def_ 26 (d := d__law_root) rfl
theorem _root_.TK.Hx.dd__law_word_right (T : Hk K mg) : ∃ fd, FunD K "_law_word_right" "_law_word_right" (defArgs s__law_word_right) (defBody s__law_word_right) (defScope s__law_word_right) [] [] (He.ga K "_law_word_right") fd := T.says.def_ 27 (d := d__law_word_right) rfl
theorem _root_.TK.Hx.dd__law_two_right (T : Hk K mg) : ∃ fd, FunD K "_law_two_right" "_law_two_right" (defArgs s__law_two_right) (defBody s__law_two_right) (defScope s__law_two_right) [] [] (He.ga K "_law_two_right") fd := T.says.def_ 28 (d := d__law_two_right) rfl
theorem _root_.TK.Hx.dd__law_refused (T : Hk K mg) : ∃ fd, FunD K "_law_refused" "_law_refused" (defArgs s__law_refused) (defBody s__law_refused) (defScope s__law_refused) [] [] (He.ga K "_law_refused") fd := T.says.def_ 29 (d := d__law_refused) rfl
theorem _root_.TK.Hx.dd_law (T : Hk K mg) : ∃ fd, FunD K "law" "law" (defArgs s_law) (defBody s_law) (defScope s_law) [] [] (He.ga K "law") fd := T.says.def_ 30 (d := d_law) rfl
theorem _root_.TK.Hx.m_InvalidSigned (T : Hk K mg) : (oexB K (He.ga K "InvalidSigned") && (iniB K (He.ga K "InvalidSigned") && xfB K (He.ga K "InvalidSigned"))) = true := T.more
theorem _root_.TK.Hx.ox_InvalidSigned (T : Hk K mg) : OexC K (He.ga K "InvalidSigned") := oexB_ok (He.ba T.m_InvalidSigned).1
theorem _root_.TK.Hx.xf_InvalidSigned (T : Hk K mg) : XfC K (He.ga K "InvalidSigned") := xfB_ok (He.ba (He.ba T.m_InvalidSigned).2).2
theorem sc_InvalidSigned : FnScope ["self", "given"] ["self", "given"] (defScope s_InvalidSigned) := ⟨rfl, rfl, rfl, by decide +kernel, rfl, by decide +kernel, by decide +kernel⟩
theorem _root_.TK.Hx.pm_InvalidSigned (T : Hk K mg) {X : Cx} {e : Expr} {ta : TA} {p pos : Pos} {j : Nat} (hr : Room (j + 2) X.A) (hg : Gl X "InvalidSigned") (ha : PA X [e] ta) (eK : X.K = K := by rfl) (em : X.mg = mg := by rfl)
    (he : starEach (e :: []) X.env = (false, eval e X.env) :: starEach [] X.env := by rfl) (hpl : (backTo pos (starEach [] X.env)).any (·.1) = false := by rfl) : PMk X (.Call (.Name "InvalidSigned" p) [e] [] pos) (tMkO (He.ga K "InvalidSigned") (spI (He.ga K "InvalidSigned") "given") [] ta) := by
  subst eK em
  obtain ⟨fd, F⟩ := T.says.def_ 31 (d := d_InvalidSigned) rfl
  have ok := init1_ok (P := X.prog) (w := X.w) (mg := X.mg) (base := X.base) (C := He.ga X.K "InvalidSigned") (f := "given") F sc_InvalidSigned T.ox_InvalidSigned T.no_InvalidSigned_given (.inl rfl) (.inl rfl) (by decide) (by decide)
  have b := FunD.bindsN (ps := ["self", "given"]) F fun _ _ _ _ _ _ us hl => match us, hl with | [_, _], _ => rfl
  have ini := He.ba (He.ba (He.ba T.m_InvalidSigned).2).1
  exact pmk_oex T.ox_InvalidSigned (He.eqO_ok ini.1) (of_decide_eq_true ini.2) ok (hr.mono (by omega)) b .nil pass0 hg T.g_InvalidSigned ha (by decide) he hpl
theorem _root_.TK.Hx.pm0_StringError (T : Hk K mg) {X : Cx} {p pos : Pos} (hg : Gl X "StringError" := by rfl) (eK : X.K = K := by rfl) (em : X.mg = mg := by rfl) : PMk X (.Call (.Name "StringError" p) [] [] pos) (fun (_ : L2.St) (H : Hp) (Q : XK) => Q (.ref (He.ga K "StringError")) none H) := by
  subst eK em
  obtain ⟨h1, h2, h3, h4⟩ := He.exc_ok (T.says.fact 59 (f := .exc "StringError") rfl)
  exact pmk_own0 PySem.F.excBase_ValueError h1 T.g_StringError h2 (raises_own h3 h4) hg
theorem _root_.TK.Hx.pm0_Empty (T : Hk K mg) {X : Cx} {p pos : Pos} (hg : Gl X "Empty" := by rfl) (eK : X.K = K := by rfl) (em : X.mg = mg := by rfl) : PMk X (.Call (.Name "Empty" p) [] [] pos) (fun (_ : L2.St) (H : Hp) (Q : XK) => Q (.ref (He.ga K "Empty")) none H) := by
  subst eK em
  obtain ⟨h1, h2, h3, h4⟩ := He.exc_ok (T.says.fact 60 (f := .exc "Empty") rfl)
  exact pmk_own0 PySem.F.excBase_ValueError h1 T.g_Empty h2 (raises_own h3 h4) hg
end
def loose0 : List Str := [("StringError" : Str), ("InvalidSigned" : Str), ("Empty" : Str), ("SIGNS" : Str), ("MOST_SIGNED" : Str), ("is_signed" : Str), ("check_signed" : Str), ("reduced_of" : Str), ("reduced" : Str), ("undone_of" : Str), ("undone" : Str), ("signed_product" : Str), ("core_in" : Str), ("core_of" : Str), ("carried" : Str), ("root_in" : Str), ("signed_root" : Str), ("_law_cell" : Str), ("_law_box" : Str), ("_law_take" : Str), ("_law_same" : Str), ("_law_very" : Str), ("_law_turn" : Str), ("_law_reduce" : Str), ("_law_undo" : Str)]
def loose1 : List Str := [("_law_signed" : Str), ("_law_bad_signed" : Str), ("_law_ask" : Str), ("_law_twice" : Str), ("_law_taken" : Str), ("_law_core" : Str), ("_law_root" : Str), ("_law_word_right" : Str), ("_law_two_right" : Str), ("_law_refused" : Str)]
def loose : List Str := loose0 ++ loose1
abbrev R : PySem.W.OpenRow := PySem.W.OpenLaw.row PySem.Challenge.rw_stringbench_k73_reduced_signed_words
abbrev AlE : Type := He.AlD × Bool
def obsE (g : Addr → Option Obj) : AlE := (He.obsDG 5 fa fn g, exB (He.frG g (He.asD g 5)))
def hk : PySem.W.Hook where
  α := AlE
  obs := fun s => obsE s.heap.get?
  val := fun _ => (He.valD fn, true)
  says := fun _ h => ∃ K : PySem.W.Frag, K.In h ∧ He.SaysD fa fn K ∧ exB K = true
  of := fun _ _ e => ⟨_, He.frG_in, congrArg (fun z : AlE => z.1) e, congrArg (fun z : AlE => z.2) e⟩
  keeps := fun _ _ _ ⟨K, hK, c⟩ k => ⟨K, PySem.W.Frag.In.keeps hK k, c⟩
def ob (s : PySem.W.SharedT) : AlE := obsE (HandSHeadRun.getT s)
theorem ob_eq (s : PySem.W.SharedT) : ob s = hk.obs s.abs := by
  have e : HandSHeadRun.getT s = s.abs.heap.get? := funext fun a => HandSHeadRun.getT_eq s a
  unfold ob
  rw [e] <;> rfl
set_option maxHeartbeats 0 in
theorem run (w : World) : HandSHeadRun.RunEq R (PySem.W.view R.prog [39]) hk ob 6000 loose w := by
  intro os
  kernel_rfl
end K

/-! what each def of the domain is worth -/
namespace K
open PySem PySem.Spec PyProof.Rows L2 TK
/-- a text or something that is no text -/
abbrev tx (l : List Nat) : Sc := TK.T l
def Bad (μ : Mu) (s : Sc) : Prop := ∃ n, TyM μ n s ∧ (kitB n "str" = some false ∨ ∃ l, s = T l ∧ l.length ≤ 16777216 ∧ good l = false)
def A_is_signed : Ct := fun ss μ R _ => ∃ s, ss = [s] ∧ ((Bad μ s ∧ R (B false) μ) ∨ ∃ l, s = T l ∧ good l = true ∧ R (B true) μ)
abbrev inv (K : PySem.W.Frag) (X : XP) (s : Sc) (μ : Mu) : Prop := X (He.ga K "InvalidSigned") (some [("given", s)]) μ
def A_check_signed (K : PySem.W.Frag) : Ct := fun ss μ R X => ∃ s, ss = [s] ∧ ((Bad μ s ∧ inv K X s μ) ∨ ∃ l, s = T l ∧ good l = true ∧ R N0 μ)
def A_reduced_of : Ct := fun ss μ R _ => ∃ l, ss = [T l] ∧ l.all okc = true ∧ l.length ≤ 100000 ∧ R (T (red l)) μ
theorem swap_ok {l : List Nat} (h : l.all okc = true) : Txt.swapcase (Tx l) = Tx (l.map sw) := swap_txt fun c hc => by
  have h1 := of_decide_eq_true (List.all_eq_true.mp h c hc)
  simp only [List.mem_cons, List.not_mem_nil, or_false] at h1
  rcases h1 with rfl | rfl | rfl | rfl | rfl | rfl <;> exact ⟨by decide, by decide +kernel⟩
abbrev chs (l : List Nat) : List PyData := l.map fun c => .str (Tx [c])
theorem okc_lt {c : Nat} (h : okc c = true) : c < 0x110000 := by
  have h1 := of_decide_eq_true h
  simp only [List.mem_cons, List.not_mem_nil, or_false] at h1
  omega
theorem shaped_chs {l : List Nat} (h : l.all okc = true) : SeqAt.shaped (.list (chs l)) = true := shaped_chars fun c hc => okc_lt (List.all_eq_true.mp h c hc)
theorem atI_last {α : Type} {l : List α} : atI l (-1) = l.getLast? := by
  unfold atI ixN
  rw [if_neg (by decide)]
  cases l with
  | nil => rfl
  | cons x r =>
    rw [if_pos (by rw [List.length_cons]; omega)]
    show (x :: r)[(-1 + ((r.length + 1 : Nat) : Int)).toNat]? = _
    rw [show (-1 + ((r.length + 1 : Nat) : Int)).toNat = r.length by omega, List.getLast?_eq_getElem?, List.length_cons, Nat.add_sub_cancel]
/-- a door of one word -/
def Door1 (K : PySem.W.Frag) (f : List Nat → Sc) : Ct := fun ss μ R X => (∃ l, ss = [tx l] ∧ good l = true ∧ R (f l) μ) ∨ ∃ s, ss = [s] ∧ Bad μ s ∧ inv K X s μ
abbrev A_reduced (K : PySem.W.Frag) : Ct := Door1 K fun l => tx (red l)
abbrev A_undone (K : PySem.W.Frag) : Ct := Door1 K fun l => tx (iv (red l))
def A_undone_of : Ct := fun ss μ R _ => ∃ l, ss = [tx l] ∧ l.all okc = true ∧ l.length ≤ 100000 ∧ R (tx (red (iv l))) μ
def Door2 (K : PySem.W.Frag) (f : List Nat → List Nat → Sc) : Ct := fun ss μ R X => ∃ s t, ss = [s, t] ∧ ((Bad μ s ∧ inv K X s μ) ∨ ∃ l, s = tx l ∧ good l = true ∧ ((Bad μ t ∧ inv K X t μ) ∨ ∃ m, t = tx m ∧ good m = true ∧ R (f l m) μ))
abbrev A_signed_product (K : PySem.W.Frag) : Ct := Door2 K fun l m => tx (red (l ++ m))
abbrev two (a b : List Nat) : Sc := .d (.tuple [.str (TK.Tx a), .str (TK.Tx b)])
def A_core_in : Ct := fun ss μ R _ => ∃ l, ss = [tx l] ∧ l.all okc = true ∧ l.length ≤ 100000 ∧ R (two (outerOf l) (coreOf l)) μ
abbrev A_core_of (K : PySem.W.Frag) : Ct := Door1 K fun l => two (outerOf (red l)) (coreOf (red l))
def turnOf (c d : List Nat) : Option Nat := if c.length = d.length then fstAt (d ++ d) c else none
def carry (l m : List Nat) : Sc := match turnOf (coreOf (red l)) (coreOf (red m)) with
  | none => N0
  | some t => tx (red (outerOf (red l) ++ red (iv ((coreOf (red m)).take t)) ++ red (iv (outerOf (red m)))))
theorem carry_none {l m : List Nat} (h : turnOf (coreOf (red l)) (coreOf (red m)) = none) : carry l m = N0 := by unfold carry; rw [h]
theorem carry_some {l m : List Nat} {t : Nat} (h : turnOf (coreOf (red l)) (coreOf (red m)) = some t) : carry l m = tx (red (outerOf (red l) ++ red (iv ((coreOf (red m)).take t)) ++ red (iv (outerOf (red m))))) := by unfold carry; rw [h]
abbrev A_carried (K : PySem.W.Frag) : Ct := Door2 K carry
abbrev rootS (w : List Nat) : Sc := .d (.tuple [.str (TK.Tx (rootOf w)), .int (numOf w)])
def A_root_in : Ct := fun ss μ R _ => ∃ l, ss = [tx l] ∧ l.all okc = true ∧ l.length ≤ 60 ∧ coreOf l ≠ [] ∧ R (rootS l) μ
def A_signed_root (K : PySem.W.Frag) : Ct := fun ss μ R X => (∃ l, ss = [tx l] ∧ good l = true ∧ ((red l ≠ [] ∧ R (rootS (red l)) μ) ∨ (red l = [] ∧ X (He.ga K "Empty") none μ))) ∨ ∃ s, ss = [s] ∧ Bad μ s ∧ inv K X s μ
end K

/-! what each def of the law is worth -/
namespace K
open PySem PySem.Spec PyProof.Rows L2 TK
def Box (n : Nat) (o : MO) : Prop := ∃ (a : Int) (b : Bool) (c : Int) (m : Nat), o = .lst [I a, B b, I c, I (m : Int)] ∧ 0 ≤ a ∧ 0 ≤ c ∧ c < 2147483629 ∧ m ≤ n
/-- the box stands at the k-th place of what may change -/
def BoxAt (μ0 : Mu) (k : Nat) (p : Addr) (n : Nat) (μ : Mu) : Prop := k < μ0.length ∧ ∃ o, μ = μ0.set k (p, o) ∧ Box n o
theorem BoxAt.get {μ0 μ : Mu} {k : Nat} {p : Addr} {n : Nat} (h : BoxAt μ0 k p n μ) : ∃ o, μ[k]? = some (p, o) ∧ Box n o := by
  obtain ⟨hk, o, rfl, ho⟩ := h
  exact ⟨o, by rw [List.getElem?_set_self hk], ho⟩
theorem BoxAt.set {μ0 μ : Mu} {k : Nat} {p : Addr} {n n' : Nat} {o' : MO} (h : BoxAt μ0 k p n μ) (ho : Box n' o') : BoxAt μ0 k p n' (μ.set k (p, o')) := by
  obtain ⟨hk, o, rfl, _⟩ := h
  exact ⟨hk, o', by rw [List.set_set], ho⟩
theorem BoxAt.le {μ0 μ : Mu} {k : Nat} {p : Addr} {n n' : Nat} (h : BoxAt μ0 k p n μ) (hn : n ≤ n') : BoxAt μ0 k p n' μ := by
  obtain ⟨hk, o, rfl, a, b, c, m, e, h1, h2, h3, h4⟩ := h
  exact ⟨hk, o, rfl, a, b, c, m, e, h1, h2, h3, by omega⟩
theorem BoxAt.cons {μ0 μ : Mu} {k : Nat} {p : Addr} {n : Nat} (q : Addr × MO) (h : BoxAt μ0 k p n μ) : BoxAt (q :: μ0) (k + 1) p n (q :: μ) := by
  obtain ⟨hk, o, rfl, ho⟩ := h
  exact ⟨by rw [List.length_cons]; omega, o, rfl, ho⟩
theorem BoxAt.uncons {μ0 μ : Mu} {k : Nat} {p : Addr} {n : Nat} {q : Addr × MO} (h : BoxAt (q :: μ0) (k + 1) p n μ) : ∃ μ', μ = q :: μ' ∧ BoxAt μ0 k p n μ' := by
  obtain ⟨hk, o, rfl, ho⟩ := h
  rw [List.length_cons] at hk
  exact ⟨_, rfl, by omega, o, rfl, ho⟩
theorem BoxAt.one {p : Addr} {n : Nat} {o : MO} (h : Box n o) : BoxAt [(p, o)] 0 p n [(p, o)] := ⟨Nat.succ_pos _, o, rfl, h⟩
def A__law_take : Ct := fun ss μ R _ => ∃ (p : Addr) (k n : Nat) (many : Nat) (μ0 : Mu), ss = [.v (.ref p), I (many : Int)] ∧ BoxAt μ0 k p n μ ∧ n < 1000000 ∧ 0 < many ∧ many ≤ 10000 ∧ ∀ d : Nat, d < many → ∀ μ', BoxAt μ0 k p (n + 1) μ' → R (I (d : Int)) μ'
def A__law_cell (K : PySem.W.Frag) : Ct := fun ss μ R _ => ∃ (ns : List Int) (k : Nat), ss = [scS K ns, I (k : Int)] ∧ k ≤ 100 ∧ ∀ x : Int, R (I x) μ
def A__law_box : Ct := fun ss μ R _ => ∃ x : Int, ss = [I x] ∧ ∀ (p : Addr) (o : MO), Box 0 o → R (.v (.ref p)) ((p, o) :: μ)
/-- data of bounded depth and width -/
def Fit : Nat → PyData → Prop
  | 0, _ => False
  | n + 1, .list xs => xs.length ≤ 1000 ∧ ∀ x, x ∈ xs → Fit n x
  | n + 1, .tuple xs => xs.length ≤ 1000 ∧ ∀ x, x ∈ xs → Fit n x
  | _ + 1, _ => True
def A__law_same (n : Nat) : Ct := fun ss μ R _ => ∃ told due : PyData, ss = [.d told, .d due] ∧ Fit n due ∧ ∀ b : Bool, (b = true ↔ told = due) → R (B b) μ
theorem A0__law_same {ss : List Sc} {μ : Mu} {R : Sc → Mu → Prop} {X : XP} (h : A__law_same 0 ss μ R X) : False := by
  obtain ⟨_, _, _, h, _⟩ := h; exact h
def A__law_turn : Ct := fun ss μ R _ => ∃ l, ss = [tx l] ∧ l.all okc = true ∧ l.length ≤ 100000 ∧ R (tx (l.map sw)) μ
def A__law_reduce : Ct := fun ss μ R _ => ∃ l, ss = [tx l] ∧ l.all okc = true ∧ l.length ≤ 100000 ∧ R (tx (red l)) μ
def A__law_undo : Ct := fun ss μ R _ => ∃ l, ss = [tx l] ∧ l.all okc = true ∧ l.length ≤ 100000 ∧ R (tx (iv l)) μ
end K

namespace K
open PySem PySem.Spec PyProof.Rows L2 TK
def A__law_core : Ct := A_core_in
def A__law_root : Ct := A_root_in
def A__law_taken : Ct := fun ss μ R _ => ∃ (p : Addr) (k n : Nat) (l : List Nat) (μ0 : Mu), ss = [.v (.ref p), tx l] ∧ BoxAt μ0 k p n μ ∧ n + l.length < 900000 ∧ l.all okc = true ∧ l.length ≤ 1000 ∧ ∀ μ', BoxAt μ0 k p (n + l.length + 1) μ' → R (tx (red l)) μ'
def A__law_signed : Ct := fun ss μ R _ => ∃ (p : Addr) (k n letters most : Nat) (μ0 : Mu), ss = [.v (.ref p), I (letters : Int), I (most : Int)] ∧ BoxAt μ0 k p n μ ∧ n < 900000 ∧ 1 ≤ letters ∧ letters ≤ 3 ∧ most ≤ 60 ∧
  ∀ w μ', w.all okc = true → w.length ≤ most → BoxAt μ0 k p (n + 100) μ' → R (tx w) μ'
def badL : List PyData := [.none, .int 7, .str (Str.ofString "abd"), .str (Str.ofString "D"), .tuple [.str (Str.ofString "a"), .str (Str.ofString "b")], .str (TK.Tx (List.replicate 61 97)), .bool true, .str (Str.ofString "a b"), .str (Str.ofString "ab\n"), .int (-1)]
def A__law_bad_signed : Ct := fun ss μ R _ => ∃ (p : Addr) (k n : Nat) (μ0 : Mu), ss = [.v (.ref p)] ∧ BoxAt μ0 k p n μ ∧ n < 900000 ∧
  ∀ μ', BoxAt μ0 k p (n + 1) μ' → (∀ d, d ∈ badL → R (.d d) μ') ∧ (∀ q, R (.v (.ref q)) ((q, .lst [tx [97]]) :: μ')) ∧ ∀ q, R (.v (.ref q)) ((q, .dic []) :: μ')
def A__law_very : Ct := fun ss μ R _ => (∃ d, ss = [.d d, .d d] ∧ d ∈ badL ∧ R (B true) μ) ∨ (∃ (q : Addr) (s : Sc) (μ1 : Mu), ss = [.v (.ref q), .v (.ref q)] ∧ μ = (q, .lst [s]) :: μ1 ∧ R (B true) μ1) ∨ ∃ (q : Addr) (μ1 : Mu), ss = [.v (.ref q), .v (.ref q)] ∧ μ = (q, .dic []) :: μ1 ∧ R (B true) μ1
end K

namespace K
open PySem PySem.Spec PyProof.Rows L2 TK
abbrev st (s : String) : PyData := .str (Str.ofString s)
abbrev toldD (x : PyData) : Sc := .d (.list [st "told", x])
abbrev resSigned (s : Sc) : Sc := lstS [tx (cs "signed"), s]
def carryD (l m : List Nat) : PyData := match turnOf (coreOf (red l)) (coreOf (red m)) with
  | none => .none
  | some t => .str (TK.Tx (red (outerOf (red l) ++ red (iv ((coreOf (red m)).take t)) ++ red (iv (outerOf (red m))))))
theorem carry_d (l m : List Nat) : carry l m = .d (carryD l m) := by
  unfold carry carryD
  cases turnOf (coreOf (red l)) (coreOf (red m)) <;> rfl
abbrev twoD (a b : List Nat) : PyData := .tuple [.str (TK.Tx a), .str (TK.Tx b)]
abbrev rootD (w : List Nat) : PyData := .tuple [.str (TK.Tx (rootOf w)), .int (numOf w)]
abbrev emptyD : Sc := .d (.list [st "empty", .none])
def twoW : List (List Nat) := [cs "product", cs "carried"]
def oneW : List (List Nat) := [cs "reduced", cs "undone", cs "core", cs "root"]
inductive AskS (μ : Mu) : List Nat → List Sc → Sc → Prop
  | isT {l r} : good l = true → AskS μ (cs "is") (tx l :: r) (toldD (.bool true))
  | isF {s r} : Bad μ s → AskS μ (cs "is") (s :: r) (toldD (.bool false))
  | prod {l m r} : good l = true → good m = true → AskS μ (cs "product") (tx l :: tx m :: r) (toldD (.str (TK.Tx (red (l ++ m)))))
  | car {l m r} : good l = true → good m = true → AskS μ (cs "carried") (tx l :: tx m :: r) (toldD (carryD l m))
  | two1 {w s t r} : w ∈ twoW → Bad μ s → AskS μ w (s :: t :: r) (resSigned s)
  | two2 {w l t r} : w ∈ twoW → good l = true → Bad μ t → AskS μ w (tx l :: t :: r) (resSigned t)
  | red {l r} : good l = true → AskS μ (cs "reduced") (tx l :: r) (toldD (.str (TK.Tx (red l))))
  | und {l r} : good l = true → AskS μ (cs "undone") (tx l :: r) (toldD (.str (TK.Tx (iv (K.red l)))))
  | core {l r} : good l = true → AskS μ (cs "core") (tx l :: r) (toldD (twoD (outerOf (K.red l)) (coreOf (K.red l))))
  | root {l r} : good l = true → K.red l ≠ [] → AskS μ (cs "root") (tx l :: r) (toldD (rootD (K.red l)))
  | rootE {l r} : good l = true → K.red l = [] → AskS μ (cs "root") (tx l :: r) emptyD
  | one1 {w s r} : w ∈ oneW → Bad μ s → AskS μ w (s :: r) (resSigned s)
def A__law_ask (K : PySem.W.Frag) : Ct := fun ss μ R _ => ∃ (w : List Nat) (args : List Sc) (named : Bool) (s : Sc), ss = [tx w, lstS args, B named] ∧ AskS μ w args s ∧ R s μ
def A__law_twice (K : PySem.W.Frag) : Ct := fun ss μ R _ => ∃ (w : List Nat) (args : List Sc) (due : PyData) (named : Bool) (x : PyData), ss = [tx w, lstS args, .d due, B named] ∧ Fit 3 due ∧ AskS μ w args (toldD x) ∧ ∀ b : Bool, (b = true ↔ x = due) → R (B b) μ
/-- doors that a local name may hold -/
def DoorS (K : PySem.W.Frag) (L : List (Str × Ct)) : Addr → Sp → Prop := fun f sp => ∃ q, q ∈ L ∧ f = He.ga K q.1 ∧ sp = SpOf q.2
theorem doors_ok {P : Program} {w : World} {K : PySem.W.Frag} {mg : Str → Option Value} {base : Heap} {j n : Nat} {ks : List Str} {L : List (Str × Ct)}
    (h : ∀ q, q ∈ L → ∃ k, k ≤ j ∧ Fnk P w K mg base k n q.1 ks q.2 ∧ mg q.1 = some (.ref (He.ga K q.1))) : ∀ f sp, DoorS K L f sp → TK.Callee P w K mg base j n ks f sp := by
  rintro f sp ⟨q, hq, rfl, rfl⟩
  obtain ⟨k, hk, ⟨f, hm, c⟩, hg⟩ := h q hq
  rw [hm] at hg
  have e : f = He.ga K q.1 := by injection hg with hg; injection hg
  subst e
  exact c.lift hk
abbrev doors2 (K : PySem.W.Frag) : List (Str × Ct) := [("signed_product", fun ss => A_signed_product K (permL [0, 1] N0 ss)), ("carried", fun ss => A_carried K (permL [0, 1] N0 ss))]
abbrev doors2k (K : PySem.W.Frag) : List (Str × Ct) := [("signed_product", fun ss => A_signed_product K (permL [1, 0] N0 ss)), ("carried", fun ss => A_carried K (permL [1, 0] N0 ss))]
abbrev doors1 (K : PySem.W.Frag) : List (Str × Ct) := [("reduced", fun ss => A_reduced K (permL [0] N0 ss)), ("undone", fun ss => A_undone K (permL [0] N0 ss)), ("core_of", fun ss => A_core_of K (permL [0] N0 ss)), ("signed_root", fun ss => A_signed_root K (permL [0] N0 ss))]
/-- list.index over flat things -/
theorem rm_idx {F : Fr} {μ : Mu} {Φ : Sc → Mu → Prop} {K : PySem.W.Frag} {ds : List PyData} {d : PyData} {j : Nat} (hd : flatD d = true) (hs : ds.all flatD = true) (hj : (ds.map vOf).findIdx? (fun z => eqV z (vOf d)) = some j) (q : Φ (I (j : Int)) μ) :
    RM F μ (rIndex K) (.d (.list ds)) [.d d] Φ := fun P μf hP H x xs Q c k => by
  obtain ⟨y, rfl, hy⟩ := scL1 c.at.2
  obtain ⟨a, us, rfl, g1, g2⟩ := dq_lst c.at.1.2
  obtain ⟨e1, f1⟩ := flatD_v hd hy
  obtain ⟨e2, f2⟩ := flatAll_v hs g2
  obtain ⟨hlt, h2, h3⟩ := List.findIdx?_eq_some_iff_getElem.mp hj
  refine ⟨a, us, y, j, (ds.map vOf)[j], rfl, rfl, SqL.of g1, f1, f2, by rw [e2, List.getElem?_eq_getElem hlt], by rw [e1]; exact h2, ?_, k _ μ _ H q ((c.le Up.and_l).le fun I z => ⟨z.1, .int _⟩)⟩
  intro m z' hm hz
  rw [e2] at hz
  obtain ⟨hlt2, hz2⟩ := List.getElem?_eq_some_iff.mp hz
  have := h3 m hm
  rw [e1, ← hz2]
  simpa using this
theorem atI_c0 {α : Type} {x : α} {r : List α} : atI (x :: r) 0 = some x := atI_zero
theorem atI_c1 {α : Type} {x y : α} {r : List α} : atI (x :: y :: r) 1 = some y := atI_natE (i := 1)
theorem ro_inLb {F : Fr} {μ : Mu} {Φ : Sc → Mu → Prop} {K : PySem.W.Frag} {x : PyData} {ds : List PyData} {b : Bool} (hx : flatD x = true) (hd : ds.all flatD = true) (hb : inV (vOf x) (ds.map vOf) = b) (q : Φ (B b) μ) : RO F μ (rIn K false) (.d x) (.d (.list ds)) Φ := ro_inL hx hd (by rw [hb]; exact q)
/-- what the doors may raise -/
def XE (K : PySem.W.Frag) (R : Sc → Mu → Prop) : XP := fun C fs μ' => (C = He.ga K "InvalidSigned" ∧ ∃ s, fs = some [(("given" : Str), s)] ∧ R (resSigned s) μ') ∨ (C = He.ga K "Empty" ∧ fs = none ∧ R emptyD μ')
def A__law_word_right (K : PySem.W.Frag) : Ct := fun ss μ R _ => ∃ (p : Addr) (k n : Nat) (l : List Nat) (named : Bool) (μ0 : Mu), ss = [.v (.ref p), tx l, B named] ∧ BoxAt μ0 k p n μ ∧ n < 800000 ∧ good l = true ∧ ∀ μ', BoxAt μ0 k p (n + 100) μ' → R (B true) μ'
def A__law_two_right (K : PySem.W.Frag) : Ct := fun ss μ R _ => ∃ (l m : List Nat) (named : Bool), ss = [tx l, tx m, B named] ∧ good l = true ∧ good m = true ∧ R (B true) μ
def A__law_refused (K : PySem.W.Frag) : Ct := fun ss μ R _ => ∃ (p : Addr) (k n : Nat) (μ0 : Mu), ss = [.v (.ref p)] ∧ BoxAt μ0 k p n μ ∧ n < 800000 ∧ ∀ μ', BoxAt μ0 k p (n + 100) μ' → R (B true) μ'
def A_law (K : PySem.W.Frag) : Ct := fun ss μ R _ => ∃ ns : List Int, ss = [scS K ns] ∧ μ = [] ∧ R (B true) []
end K

namespace K
open PySem PySem.Spec PyProof.Rows L2 TK

local macro_rules | `(tactic| walk_at "v") => `(tactic| ((with_reducible refine ev_var (s := ?sv) ?hv ?kv); (case hv => exact rfl)))
set_option hygiene false
local macro_rules | `(tactic| walk_at "e") => `(tactic| (first
  | walk_at "v"
  | with_reducible apply ev_ci
  | with_reducible apply ev_cb
  | with_reducible apply ev_cn
  | with_reducible apply ev_cs
  | with_reducible apply ev_cv
  | with_reducible apply ev_op
  | with_reducible apply ev_un
  | with_reducible apply ev_CB
  | with_reducible apply ev_bm0
  | with_reducible apply ev_bm
  | with_reducible apply ev_m0
  | with_reducible apply ev_m1
  | with_reducible apply ev_sl
  | with_reducible apply ev_notV
  | with_reducible apply ev_andV
  | with_reducible apply ev_orV
  | with_reducible apply ev_if
  | with_reducible apply ev_revS
  | with_reducible apply ev_call
  | with_reducible refine ev_callE X (fun σ C fs μ' d H' x c => hX _ _ _ _ _ x (up_raise c)) ?_
  | with_reducible apply et_test
  | with_reducible apply et_B
  | with_reducible apply et_not
  | with_reducible apply et_and
  | with_reducible apply et_or
  | with_reducible apply ea_nil
  | with_reducible apply ea_cons
  | with_reducible apply eo_none
  | with_reducible apply eo_some
  | with_reducible apply ro_eqI
  | with_reducible apply ro_neI
  | with_reducible apply ro_eqT
  | with_reducible apply ro_neT
  | with_reducible apply ro_eqB
  | with_reducible apply ro_eqS
  | with_reducible apply ro_neS
  | with_reducible apply ro_neB
  | with_reducible apply ro_I
  | with_reducible apply ro_IB
  | with_reducible apply ru_I
  | with_reducible apply rc_abs
  | with_reducible apply rc_int
  | with_reducible apply gt_name
  | with_reducible apply et_yes
  | with_reducible apply ro_isB
  | with_reducible apply ro_isNn
  | with_reducible apply ro_isNb
  | with_reducible apply ro_isNi
  | with_reducible apply ro_isNs
  | with_reducible apply ro_isNl
  | with_reducible apply ro_isNu
  | with_reducible apply ro_isNv
  | with_reducible apply ro_notNn
  | with_reducible apply ro_notNb
  | with_reducible apply ro_notNi
  | with_reducible apply ro_notNs
  | with_reducible apply ro_notNl
  | with_reducible apply ro_notNu
  | with_reducible apply ro_notNv
  | with_reducible refine rc_isiN (b := true) (by decide +kernel) ?_
  | with_reducible refine rc_isiN (b := false) (by decide +kernel) ?_
  | with_reducible refine rc_isiB (b := true) (by decide +kernel) ?_
  | with_reducible refine rc_isiB (b := false) (by decide +kernel) ?_
  | with_reducible refine rc_isiI (b := true) (by decide +kernel) ?_
  | with_reducible refine rc_isiI (b := false) (by decide +kernel) ?_
  | with_reducible refine rc_isiS (b := true) (by decide +kernel) ?_
  | with_reducible refine rc_isiS (b := false) (by decide +kernel) ?_
  | with_reducible refine rc_isiL (b := true) (by decide +kernel) ?_
  | with_reducible refine rc_isiL (b := false) (by decide +kernel) ?_
  | with_reducible refine rc_isiU (b := true) (by decide +kernel) ?_
  | with_reducible refine rc_isiU (b := false) (by decide +kernel) ?_
  | with_reducible apply gt_setL
  | with_reducible apply gt_setD
  | with_reducible apply ev_din
  | with_reducible refine rc_lenT (by first | omega | (simp only [List.length_take, List.length_drop, List.length_append, List.length_reverse, List.length_map, List.length_cons, List.length_nil]; omega) | decide +kernel) ?_
  | with_reducible apply rc_lenL
  | with_reducible apply rc_lenU
  | with_reducible refine rs_str (by first | omega | (simp only [List.length_take, List.length_drop, List.length_append, List.length_reverse, List.length_map, List.length_cons, List.length_nil]; omega) | decide +kernel) ?_
  | with_reducible refine ro_catT (by first | omega | (simp only [List.length_take, List.length_drop, List.length_append, List.length_reverse, List.length_map, List.length_cons, List.length_nil]; omega) | decide +kernel) ?_
  | with_reducible refine gt_tup rfl ?_
  | ((with_reducible show TK.Gts _ _ _ _ _ _); (first | apply gts_cons | apply gts_nil))
  | with_reducible refine ro_mul (by first | omega | decide) ?_
  | with_reducible refine ro_div (by first | omega | decide) ?_
  | with_reducible refine ro_mod (by first | omega | decide) ?_
  | (with_reducible refine ⟨_, rfl, ?_⟩)
  | (with_reducible refine ⟨_, _, rfl, ?_⟩)
  | (refine ⟨fun hb => ?_, fun hb => ?_⟩ <;> first | exact absurd hb (by decide) | (try simp only [decide_eq_true_eq, decide_eq_false_iff_not, Bool.false_eq_true, Bool.true_eq_false, reduceCtorEq, Bool.not_eq_true', Bool.not_eq_false', eq_self, not_true_eq_false, not_false_eq_true] at hb))
  | fail "stuck"))
local macro_rules | `(tactic| walk_at "s") => `(tactic| (first
  | with_reducible apply st_seq
  | with_reducible apply st_next
  | with_reducible apply st_asg
  | with_reducible apply st_ret
  | with_reducible apply st_retN
  | with_reducible apply st_if
  | with_reducible apply st_drop
  | with_reducible apply st_asgG
  | with_reducible apply st_par
  | with_reducible apply st_brk
  | with_reducible apply st_cont
  | walk_at "e"
  | fail "stuck"))
local macro_rules | `(tactic| walk_at "w") => `(tactic| (repeat first | exact wk_nil | apply wk_yes | apply wk_no))
local macro_rules | `(tactic| walk_at "len") => `(tactic| (intro ss μ R X h; first
  | (rcases h with ⟨_, rfl, _⟩ | ⟨_, _, _, rfl, _⟩ | ⟨_, _, rfl, _⟩ <;> rfl)
  | (rcases h with ⟨_, rfl, _⟩ | ⟨_, rfl, _⟩ <;> rfl)
  | (obtain ⟨_, rfl, _⟩ := h; rfl)
  | (obtain ⟨_, _, rfl, _⟩ := h; rfl)
  | (obtain ⟨_, _, _, rfl, _⟩ := h; rfl)
  | (obtain ⟨_, _, _, _, rfl, _⟩ := h; rfl)
  | (obtain ⟨_, _, _, _, _, rfl, _⟩ := h; rfl)
  | (obtain ⟨_, _, _, _, _, _, rfl, _⟩ := h; rfl)
  | (obtain ⟨_, _, _, _, _, _, _, rfl, _⟩ := h; rfl)
  | (obtain ⟨_, _, _, _, _, _, _, _, rfl, _⟩ := h; rfl)
  | (obtain ⟨_, _, _, _, _, _, _, _, _, rfl, _⟩ := h; rfl)))
local macro_rules | `(tactic| walk_at "t2") => `(tactic| (refine ev_tupS ?_; (repeat' walk_at "s"); refine ⟨by show 2 ≤ _; decide, ?_⟩; (repeat' walk_at "s")))

section
variable {P : Program} {w : World} {K : PySem.W.Frag} {mg : Str → Option Value} {base : Heap}

theorem red_take {l : List Nat} {i c : Nat} (h : l[i]? = some c) : red (l.take (i + 1)) = push (red (l.take i)) c := by
  unfold red
  rw [List.take_add_one, h, List.foldl_append]; rfl
theorem atI_chs {l : List Nat} {c : Nat} (h : l.getLast? = some c) : atI ((chs l).map Sc.d) (-1) = some (tx [c]) := by
  rw [atI_last, List.getLast?_map, List.getLast?_map, h]; rfl
theorem chs_pop {l : List Nat} {c : Nat} (h : l.getLast? = some c) : ((chs l).map Sc.d)[((chs l).map Sc.d).length - 1]? = some (tx [c]) := by
  rw [← List.getLast?_eq_getElem?, List.getLast?_map, List.getLast?_map, h]; rfl
theorem dec_last {l : List Nat} {c d : Nat} (h : l.getLast? = some c) : decide ([c] = [d]) = decide (l.getLast? = some d) := by
  rw [h]; exact decide_eq_decide.mpr ⟨fun e => by cases e; rfl, fun e => by cases e; rfl⟩
theorem take_ok {l : List Nat} (hl : l.all okc = true) (i : Nat) : (l.take i).all okc = true := by
  rw [List.all_eq_true] at hl ⊢; exact fun x hx => hl x (List.mem_of_mem_take hx)
theorem drop_ok {l : List Nat} (hl : l.all okc = true) (i : Nat) : (l.drop i).all okc = true := by
  rw [List.all_eq_true] at hl ⊢; exact fun x hx => hl x (List.mem_of_mem_drop hx)
theorem chs_app (l : List Nat) (c : Nat) : (chs l).map Sc.d ++ [tx [c]] = (chs (l ++ [c])).map Sc.d := by simp [chs]
theorem chs_drop (l : List Nat) : ((chs l).map Sc.d).dropLast = (chs l.dropLast).map Sc.d := by simp [chs, List.map_dropLast]
theorem sum_ones : ∀ l : List Nat, ((l.map fun c => [c]).map List.length).sum = l.length
  | [] => rfl
  | c :: r => by
    have h := sum_ones r
    simp only [List.map_cons, List.sum_cons, List.length_cons, List.length_nil]
    omega
theorem flat_ones : ∀ l : List Nat, (l.map fun c => [c]).flatten = l
  | [] => rfl
  | c :: r => by rw [List.map_cons, List.flatten_cons, flat_ones r]; rfl
theorem good_ok {l : List Nat} (h : good l = true) : l.all okc = true := ((Bool.and_eq_true _ _).mp h).2
theorem good_len {l : List Nat} (h : good l = true) : l.length ≤ 60 := of_decide_eq_true ((Bool.and_eq_true _ _).mp h).1

theorem sc_reduced_of : FnScope N_reduced_of ["signed"] (defScope s_reduced_of) := ⟨rfl, rfl, rfl, by decide +kernel, rfl, by decide +kernel, by decide +kernel⟩
theorem w_reduced_of (T : Hk K mg) : Kn P w K mg base 3 "reduced_of" (defArgs s_reduced_of) (defBody s_reduced_of) (defScope s_reduced_of) ["signed"] (A_reduced_of) := by
  obtain ⟨fd, F⟩ := T.dd_reduced_of
  refine ⟨_, fd, T.g_reduced_of, F, fn_ok F sc_reduced_of (by walk_at "len") (fun cdv Ar outer s H E hr => ⟨_, (pss_cons (ps_set (i := 1) sc_reduced_of.nd rfl (by first | exact Or.inl rfl | exact Or.inr rfl) (pe_lst pa_nil))
    (pss_cons (ps_for (passes_of rfl) rfl (pi_str (pv 0)) (pg_name (i := 2) sc_reduced_of.nd rfl (by first | exact Or.inl rfl | exact Or.inr rfl))
    (pss_one (ps_if (PW.pt (pw_and (pt_cmpR (op_neDK (K := K) hr.units) (pv 1) (pe_lst pa_nil) (nomark _)) (pw_and1 (pt_cmpR op_eq (pe_ix (ix_listK (K := K)) (pv 1) (pe_un un_neg pe_int) (fun _ _ => rfl)) (pe_m0 PySem.F.slot_str_swapcase PySem.F.type_str_swapcase mt_swapcase (pv 2)) (nomark _))))) (pss_one (ps_expr (pe_bm0K (K := K) PySem.F.plainAttrs_list PySem.F.slot_list_pop PySem.F.type_list_pop mt_pop (pv 1)))) (pss_one (ps_expr (pe_bmK (K := K) PySem.F.plainAttrs_list PySem.F.slot_list_append PySem.F.type_list_append mt_append (pv 1) (pa_cons (pv 2) pa_nil)))))))
    (pss_one (ps_ret (pe_join pe_str (pv 1)))))), ?_⟩)⟩
  intro P0 μ μf ss R X hA hX
  obtain ⟨l, rfl, hl, hz, hR⟩ := hA
  repeat' walk_at "s"
  refine ev_lstM ?_
  repeat' walk_at "s"
  refine ⟨by decide, fun p => ?_⟩
  refine st_seq (st_for (ei_str (ev_var rfl ⟨l, rfl, fun i ρ μ' => Wk ρ [some (tx l), some (.v (.ref p)), none] ∧ μ' = (p, .lst ((chs (red (l.take i))).map Sc.d)) :: μ, ⟨by walk_at "w", rfl⟩, fun i s ρ μ' hi hI => ?_, fun ρ μ' hI => ?_⟩)))
  · obtain ⟨hw, rfl⟩ := hI
    rw [List.getElem?_map] at hi
    obtain ⟨c, hc, rfl⟩ := Option.map_eq_some_iff.mp hi
    have ok1 : (red (l.take i)).all okc = true := red_ok (take_ok hl i)
    have okc1 : okc c = true := List.all_eq_true.mp hl c (List.mem_of_getElem? hc)
    have len1 : (red (l.take i)).length ≤ 100000 := Nat.le_trans (red_len _) (by rw [List.length_take]; omega)
    have hp := red_take hc
    refine gt_wk hw (gt_name ?_)
    refine st_if (et_det (b0 := decide ((red (l.take i)).getLast? = some (sw c))) ?_ ⟨fun hc => ?_, fun hc => ?_⟩)
    · repeat' walk_at "s"
      refine ev_lst (ea_nil ⟨[], rfl, by decide, ro_neDM (n := 0) rfl (shaped_chs ok1) shaped_nil ?_⟩)
      rw [eqv_nilR]
      repeat' walk_at "s"
      · have hne : (red (l.take i)) ≠ [] := fun z => by rw [z] at hb; cases hb
        obtain ⟨d, hd⟩ : ∃ d, (red (l.take i)).getLast? = some d := ⟨_, List.getLast?_eq_some_getLast hne⟩
        refine ro_ixM (n := 0) rfl (atI_chs hd) ?_
        repeat' walk_at "s"
        refine rm_swapcase (l' := [sw c]) (by show 1 ≤ _; decide) (swap_ok (by simpa using okc1)) ?_
        repeat' walk_at "s"
        exact ⟨dec_last hd, rfl⟩
      · refine ⟨?_, rfl⟩
        have hne : (red (l.take i)) = [] := by simpa using hb
        rw [hne]; rfl
    · have hc := of_decide_eq_true hc
      repeat' walk_at "s"
      refine ⟨.inl ⟨rfl, 0, _, rfl⟩, rm_pop (n := 0) rfl (chs_pop hc) ⟨by walk_at "w", ?_⟩⟩
      rw [hp, push, if_pos hc, chs_drop]; rfl
    · have hc := of_decide_eq_false hc
      repeat' walk_at "s"
      refine ⟨.inl ⟨rfl, 0, _, rfl⟩, ?_⟩
      repeat' walk_at "s"
      refine rm_append (n := 0) rfl (by rw [List.length_map, List.length_map]; omega) ⟨by walk_at "w", ?_⟩
      rw [hp, push, if_neg hc, chs_app]; rfl
  · obtain ⟨hw, rfl⟩ := hI
    refine st_wk hw ?_
    rw [List.length_map, List.take_length]
    refine st_freeze (i := 1) (k := 0) rfl rfl ?_
    repeat' walk_at "s"
    have e : chs (red l) = ((red l).map fun c => [c]).map fun l => .str (Tx l) := by rw [List.map_map]; rfl
    rw [e]
    refine rm_join (by rw [sum_ones]; have := red_len l; omega) ?_
    rw [flat_ones]
    exact hR

theorem k_reduced_of (T : Hk K mg) : Fnk P w K mg base 3 1 "reduced_of" [] (fun ss => A_reduced_of (permL [0] N0 ss)) := by
  obtain ⟨f, fd, hm, F, G⟩ := w_reduced_of (P := P) (w := w) (base := base) T
  exact ⟨f, hm, callee_of F G _ [0] (fun kV doc pm an cdv ct us ws hu hw => match us, ws, hu, hw with | [a0], [], _, _ => rfl)⟩

theorem sc_is_signed : FnScope N_is_signed ["value"] (defScope s_is_signed) := ⟨rfl, rfl, rfl, by decide +kernel, rfl, by decide +kernel, by decide +kernel⟩
theorem w_is_signed (T : Hk K mg) : Kn P w K mg base 3 "is_signed" (defArgs s_is_signed) (defBody s_is_signed) (defScope s_is_signed) ["value"] (A_is_signed) := by
  obtain ⟨fd, F⟩ := T.dd_is_signed
  refine ⟨_, fd, T.g_is_signed, F, fn_ok F sc_is_signed (by walk_at "len") (fun cdv Ar outer s H E hr => ⟨_, (pss_one (ps_ret (pe_and (pe_callB (call_isiKK (K := K)) (by rfl) T.n_isinstance (by decide +kernel) (pa_cons (pv 0) (pa_cons (pe_bltn (v := .ty "str") (by rfl) T.n_str (by decide +kernel) rfl) pa_nil))) (pe_and (pe_cmpR op_le (pe_callB (call_lenK (K := K)) (by rfl) T.n_len (by decide +kernel) (pa_cons (pv 0) pa_nil)) (C8.pe_gc (by rfl) T.c_MOST_SIGNED) (nomark _)) (pe_one (pe_callB (cr_all rfl) (by rfl) T.n_all (by decide +kernel) (pa_cons (pe_lc (own := [("sign", 1)]) rfl sc_is_signed.nd (pi_str (pv 0)) (blkOk_by (own := [("sign", 1)]) (N := N_is_signed) (sc := defScope s_is_signed) (by decide +kernel)) (fun _ _ _ _ _ => (pg_name (i := 1) sc_is_signed.nd rfl (by first | exact Or.inl rfl | exact Or.inr rfl))) (fun _ _ _ _ _ => pts_nil) (fun _ _ _ _ _ => (pe_cmpR op_in_sign (pv 1) (C8.pe_gc (by rfl) T.c_SIGNS) (by rfl)))) pa_nil))))))), ?_⟩)⟩
  intro P0 μ μf ss R X hA hX
  obtain ⟨s, rfl, hA⟩ := hA
  have hA' : (∃ n, TyM μ n s ∧ kitB n "str" = some false ∧ R (B false) μ) ∨ ∃ l, s = tx l ∧ l.length ≤ 16777216 ∧ R (B (good l)) μ := by
    rcases hA with ⟨⟨n, ht, hk | ⟨l, rfl, hz, hl⟩⟩, hR⟩ | ⟨l, rfl, hl, hR⟩
    · exact .inl ⟨n, ht, hk, hR⟩
    · exact .inr ⟨l, rfl, hz, by rw [hl]; exact hR⟩
    · exact .inr ⟨l, rfl, by have := good_len hl; omega, by rw [hl]; exact hR⟩
  rcases hA' with ⟨n, ht, hk, hR⟩ | ⟨l, rfl, hz, hR⟩
  · repeat' walk_at "s"
    refine rc_isi ht hk ?_
    repeat' walk_at "s"
    exact hR
  · repeat' walk_at "s"
    · refine ev_lcMap (ei_str (ev_var rfl ⟨l, rfl, l, fun c => tx [c], fun c => .bool (okc c), rfl, hz, fun c hc => gc_name (by decide) ?_, ?_⟩))
      · repeat' walk_at "s"
        exact ro_inS ⟨rfl, rfl⟩
      · repeat' walk_at "s"
        have e : (l.map fun c => PyData.bool (okc c)) = (l.map okc).map .bool := by rw [List.map_map]; rfl
        rw [e]
        refine rc_all ?_
        have e2 : good l = (l.map okc).all id := by
          unfold good
          rw [decide_eq_true (by omega), List.all_map]; rfl
        rw [← e2]; exact hR
    · have e2 : good l = false := by
        unfold good
        rw [decide_eq_false (by omega)]; rfl
      rw [e2] at hR; exact hR

theorem k_is_signed_kvalue (T : Hk K mg) : Fnk P w K mg base 3 0 "is_signed" ["value"] (fun ss => A_is_signed (permL [0] N0 ss)) := by
  obtain ⟨f, fd, hm, F, G⟩ := w_is_signed (P := P) (w := w) (base := base) T
  exact ⟨f, hm, callee_of F G _ [0] (fun kV doc pm an cdv ct us ws hu hw => match us, ws, hu, hw with | [], [b0], _, _ => rfl)⟩

theorem k_is_signed (T : Hk K mg) : Fnk P w K mg base 3 1 "is_signed" [] (fun ss => A_is_signed (permL [0] N0 ss)) := by
  obtain ⟨f, fd, hm, F, G⟩ := w_is_signed (P := P) (w := w) (base := base) T
  exact ⟨f, hm, callee_of F G _ [0] (fun kV doc pm an cdv ct us ws hu hw => match us, ws, hu, hw with | [a0], [], _, _ => rfl)⟩

theorem sc_check_signed : FnScope N_check_signed ["value"] (defScope s_check_signed) := ⟨rfl, rfl, rfl, by decide +kernel, rfl, by decide +kernel, by decide +kernel⟩
theorem w_check_signed (T : Hk K mg) : Kn P w K mg base 4 "check_signed" (defArgs s_check_signed) (defBody s_check_signed) (defScope s_check_signed) ["value"] (A_check_signed K) := by
  obtain ⟨fd, F⟩ := T.dd_check_signed
  have h_is_signed := k_is_signed (P := P) (w := w) (base := base) T
  refine ⟨_, fd, T.g_check_signed, F, fn_ok F sc_check_signed (by walk_at "len") (fun cdv Ar outer s H E hr => ⟨_, (pss_one (ps_if (pt_not (pt_val (pe_fn (E := noE) h_is_signed hr (by decide) (by rfl) (fun _ => pass_no) (pa_cons (pv 0) pa_nil) pk_nil))) (pss_one (ps_raise (W := fun cls d _ H => E cls d H) rfl (takes_of rfl rfl rfl rfl) (T.pm_InvalidSigned hr (by rfl) (pa_cons (pv 0) pa_nil)))) pss_nil)), ?_⟩)⟩
  intro P0 μ μf ss R X hA hX
  obtain ⟨s, rfl, ⟨hb, hx⟩ | ⟨l, rfl, hl, hR⟩⟩ := hA
  · repeat' walk_at "s"
    refine ⟨rfl, rfl, s, rfl, .inl ⟨hb, ?_⟩⟩
    repeat' walk_at "s"
    refine st_raise1 X (fun fs μ' σ d H' x c => hX _ _ _ _ _ x (up_raise c)) ?_
    repeat' walk_at "s"
    exact hx
  · repeat' walk_at "s"
    refine ⟨rfl, rfl, _, rfl, .inr ⟨l, rfl, hl, ?_⟩⟩
    repeat' walk_at "s"
    exact hR

theorem k_check_signed (T : Hk K mg) : Fnk P w K mg base 4 1 "check_signed" [] (fun ss => A_check_signed K (permL [0] N0 ss)) := by
  obtain ⟨f, fd, hm, F, G⟩ := w_check_signed (P := P) (w := w) (base := base) T
  exact ⟨f, hm, callee_of F G _ [0] (fun kV doc pm an cdv ct us ws hu hw => match us, ws, hu, hw with | [a0], [], _, _ => rfl)⟩

theorem sc_reduced : FnScope N_reduced ["signed"] (defScope s_reduced) := ⟨rfl, rfl, rfl, by decide +kernel, rfl, by decide +kernel, by decide +kernel⟩
theorem w_reduced (T : Hk K mg) : Kn P w K mg base 5 "reduced" (defArgs s_reduced) (defBody s_reduced) (defScope s_reduced) ["signed"] (A_reduced K) := by
  obtain ⟨fd, F⟩ := T.dd_reduced
  have h_check_signed := k_check_signed (P := P) (w := w) (base := base) T
  have h_reduced_of := k_reduced_of (P := P) (w := w) (base := base) T
  refine ⟨_, fd, T.g_reduced, F, fn_ok F sc_reduced (by walk_at "len") (fun cdv Ar outer s H E hr => ⟨_, (pss_cons (ps_expr (pe_fn (E := WE (fun cls d _ H => E cls d H)) h_check_signed hr (by decide) (by rfl) (fun σ => passAt (takes_of rfl rfl rfl rfl) σ) (pa_cons (pv 0) pa_nil) pk_nil))
    (pss_one (ps_ret (pe_fn (E := noE) h_reduced_of hr (by decide) (by rfl) (fun _ => pass_no) (pa_cons (pv 0) pa_nil) pk_nil)))), ?_⟩)⟩
  intro P0 μ μf ss R X hA hX
  rcases hA with ⟨l, rfl, hl, hR⟩ | ⟨s, rfl, hs, hx⟩
  · repeat' walk_at "s"
    refine ⟨rfl, rfl, _, rfl, .inr ⟨l, rfl, hl, ?_⟩⟩
    repeat' walk_at "s"
    exact ⟨rfl, rfl, l, rfl, good_ok hl, by have := good_len hl; omega, hR⟩
  · repeat' walk_at "s"
    exact ⟨rfl, rfl, _, rfl, .inl ⟨hs, hx⟩⟩

theorem k_reduced_ksigned (T : Hk K mg) : Fnk P w K mg base 5 0 "reduced" ["signed"] (fun ss => A_reduced K (permL [0] N0 ss)) := by
  obtain ⟨f, fd, hm, F, G⟩ := w_reduced (P := P) (w := w) (base := base) T
  exact ⟨f, hm, callee_of F G _ [0] (fun kV doc pm an cdv ct us ws hu hw => match us, ws, hu, hw with | [], [b0], _, _ => rfl)⟩

theorem k_reduced (T : Hk K mg) : Fnk P w K mg base 5 1 "reduced" [] (fun ss => A_reduced K (permL [0] N0 ss)) := by
  obtain ⟨f, fd, hm, F, G⟩ := w_reduced (P := P) (w := w) (base := base) T
  exact ⟨f, hm, callee_of F G _ [0] (fun kV doc pm an cdv ct us ws hu hw => match us, ws, hu, hw with | [a0], [], _, _ => rfl)⟩

theorem sc_undone_of : FnScope N_undone_of ["signed"] (defScope s_undone_of) := ⟨rfl, rfl, rfl, by decide +kernel, rfl, by decide +kernel, by decide +kernel⟩
theorem w_undone_of (T : Hk K mg) : Kn P w K mg base 4 "undone_of" (defArgs s_undone_of) (defBody s_undone_of) (defScope s_undone_of) ["signed"] (A_undone_of) := by
  obtain ⟨fd, F⟩ := T.dd_undone_of
  have h_reduced_of := k_reduced_of (P := P) (w := w) (base := base) T
  refine ⟨_, fd, T.g_undone_of, F, fn_ok F sc_undone_of (by walk_at "len") (fun cdv Ar outer s H E hr => ⟨_, (pss_one (ps_ret (pe_fn (E := noE) h_reduced_of hr (by decide) (by rfl) (fun _ => pass_no) (pa_cons (pe_m0 PySem.F.slot_str_swapcase PySem.F.type_str_swapcase mt_swapcase (pe_revS (pv 0))) pa_nil) pk_nil))), ?_⟩)⟩
  intro P0 μ μf ss R X hA hX
  obtain ⟨l, rfl, hl, hz, hR⟩ := hA
  repeat' walk_at "s"
  refine ⟨by omega, ?_⟩
  repeat' walk_at "s"
  have hr : l.reverse.all okc = true := by rw [List.all_reverse]; exact hl
  refine rm_swapcase (l' := iv l) (by rw [List.length_reverse]; omega) (swap_ok hr) ?_
  repeat' walk_at "s"
  exact ⟨rfl, rfl, iv l, rfl, iv_ok hl, by rw [iv_len]; exact hz, hR⟩

theorem k_undone_of (T : Hk K mg) : Fnk P w K mg base 4 1 "undone_of" [] (fun ss => A_undone_of (permL [0] N0 ss)) := by
  obtain ⟨f, fd, hm, F, G⟩ := w_undone_of (P := P) (w := w) (base := base) T
  exact ⟨f, hm, callee_of F G _ [0] (fun kV doc pm an cdv ct us ws hu hw => match us, ws, hu, hw with | [a0], [], _, _ => rfl)⟩

theorem sc_undone : FnScope N_undone ["signed"] (defScope s_undone) := ⟨rfl, rfl, rfl, by decide +kernel, rfl, by decide +kernel, by decide +kernel⟩
theorem w_undone (T : Hk K mg) : Kn P w K mg base 5 "undone" (defArgs s_undone) (defBody s_undone) (defScope s_undone) ["signed"] (A_undone K) := by
  obtain ⟨fd, F⟩ := T.dd_undone
  have h_check_signed := k_check_signed (P := P) (w := w) (base := base) T
  have h_undone_of := k_undone_of (P := P) (w := w) (base := base) T
  refine ⟨_, fd, T.g_undone, F, fn_ok F sc_undone (by walk_at "len") (fun cdv Ar outer s H E hr => ⟨_, (pss_cons (ps_expr (pe_fn (E := WE (fun cls d _ H => E cls d H)) h_check_signed hr (by decide) (by rfl) (fun σ => passAt (takes_of rfl rfl rfl rfl) σ) (pa_cons (pv 0) pa_nil) pk_nil))
    (pss_one (ps_ret (pe_fn (E := noE) h_undone_of hr (by decide) (by rfl) (fun _ => pass_no) (pa_cons (pv 0) pa_nil) pk_nil)))), ?_⟩)⟩
  intro P0 μ μf ss R X hA hX
  rcases hA with ⟨l, rfl, hl, hR⟩ | ⟨s, rfl, hs, hx⟩
  · repeat' walk_at "s"
    refine ⟨rfl, rfl, _, rfl, .inr ⟨l, rfl, hl, ?_⟩⟩
    repeat' walk_at "s"
    exact ⟨rfl, rfl, l, rfl, good_ok hl, by have := good_len hl; omega, by rw [red_iv]; exact hR⟩
  · repeat' walk_at "s"
    exact ⟨rfl, rfl, _, rfl, .inl ⟨hs, hx⟩⟩

theorem k_undone_ksigned (T : Hk K mg) : Fnk P w K mg base 5 0 "undone" ["signed"] (fun ss => A_undone K (permL [0] N0 ss)) := by
  obtain ⟨f, fd, hm, F, G⟩ := w_undone (P := P) (w := w) (base := base) T
  exact ⟨f, hm, callee_of F G _ [0] (fun kV doc pm an cdv ct us ws hu hw => match us, ws, hu, hw with | [], [b0], _, _ => rfl)⟩

theorem k_undone (T : Hk K mg) : Fnk P w K mg base 5 1 "undone" [] (fun ss => A_undone K (permL [0] N0 ss)) := by
  obtain ⟨f, fd, hm, F, G⟩ := w_undone (P := P) (w := w) (base := base) T
  exact ⟨f, hm, callee_of F G _ [0] (fun kV doc pm an cdv ct us ws hu hw => match us, ws, hu, hw with | [a0], [], _, _ => rfl)⟩

theorem sc_signed_product : FnScope N_signed_product ["one", "other"] (defScope s_signed_product) := ⟨rfl, rfl, rfl, by decide +kernel, rfl, by decide +kernel, by decide +kernel⟩
theorem w_signed_product (T : Hk K mg) : Kn P w K mg base 5 "signed_product" (defArgs s_signed_product) (defBody s_signed_product) (defScope s_signed_product) ["one", "other"] (A_signed_product K) := by
  obtain ⟨fd, F⟩ := T.dd_signed_product
  have h_check_signed := k_check_signed (P := P) (w := w) (base := base) T
  have h_reduced_of := k_reduced_of (P := P) (w := w) (base := base) T
  refine ⟨_, fd, T.g_signed_product, F, fn_ok F sc_signed_product (by walk_at "len") (fun cdv Ar outer s H E hr => ⟨_, (pss_cons (ps_expr (pe_fn (E := WE (fun cls d _ H => E cls d H)) h_check_signed hr (by decide) (by rfl) (fun σ => passAt (takes_of rfl rfl rfl rfl) σ) (pa_cons (pv 0) pa_nil) pk_nil))
    (pss_cons (ps_expr (pe_fn (E := WE (fun cls d _ H => E cls d H)) h_check_signed hr (by decide) (by rfl) (fun σ => passAt (takes_of rfl rfl rfl rfl) σ) (pa_cons (pv 1) pa_nil) pk_nil))
    (pss_one (ps_ret (pe_fn (E := noE) h_reduced_of hr (by decide) (by rfl) (fun _ => pass_no) (pa_cons (pe_op op_add_str (pv 0) (pv 1)) pa_nil) pk_nil))))), ?_⟩)⟩
  intro P0 μ μf ss R X hA hX
  obtain ⟨s, t, rfl, ⟨hs, hx⟩ | ⟨l, rfl, hl, ⟨ht, hx⟩ | ⟨m, rfl, hm, hR⟩⟩⟩ := hA
  · repeat' walk_at "s"
    exact ⟨rfl, rfl, _, rfl, .inl ⟨hs, hx⟩⟩
  · repeat' walk_at "s"
    refine ⟨rfl, rfl, _, rfl, .inr ⟨l, rfl, hl, ?_⟩⟩
    repeat' walk_at "s"
    exact ⟨rfl, rfl, _, rfl, .inl ⟨ht, hx⟩⟩
  · have h1 := good_len hl
    have h2 := good_len hm
    repeat' walk_at "s"
    refine ⟨rfl, rfl, _, rfl, .inr ⟨l, rfl, hl, ?_⟩⟩
    repeat' walk_at "s"
    refine ⟨rfl, rfl, _, rfl, .inr ⟨m, rfl, hm, ?_⟩⟩
    repeat' walk_at "s"
    exact ⟨rfl, rfl, l ++ m, rfl, by rw [List.all_append, good_ok hl, good_ok hm]; rfl, by rw [List.length_append]; omega, hR⟩

theorem k_signed_product_kother_one (T : Hk K mg) : Fnk P w K mg base 5 0 "signed_product" ["other", "one"] (fun ss => A_signed_product K (permL [1, 0] N0 ss)) := by
  obtain ⟨f, fd, hm, F, G⟩ := w_signed_product (P := P) (w := w) (base := base) T
  exact ⟨f, hm, callee_of F G _ [1, 0] (fun kV doc pm an cdv ct us ws hu hw => match us, ws, hu, hw with | [], [b0, b1], _, _ => rfl)⟩

theorem k_signed_product (T : Hk K mg) : Fnk P w K mg base 5 2 "signed_product" [] (fun ss => A_signed_product K (permL [0, 1] N0 ss)) := by
  obtain ⟨f, fd, hm, F, G⟩ := w_signed_product (P := P) (w := w) (base := base) T
  exact ⟨f, hm, callee_of F G _ [0, 1] (fun kV doc pm an cdv ct us ws hu hw => match us, ws, hu, hw with | [a0, a1], [], _, _ => rfl)⟩

end
end K

namespace K
open PySem PySem.Spec PyProof.Rows L2 TK

local macro_rules | `(tactic| walk_at "v") => `(tactic| ((with_reducible refine ev_var (s := ?sv) ?hv ?kv); (case hv => exact rfl)))
set_option hygiene false
local macro_rules | `(tactic| walk_at "e") => `(tactic| (first
  | walk_at "v"
  | with_reducible apply ev_ci
  | with_reducible apply ev_cb
  | with_reducible apply ev_cn
  | with_reducible apply ev_cs
  | with_reducible apply ev_cv
  | with_reducible apply ev_op
  | with_reducible apply ev_un
  | with_reducible apply ev_CB
  | with_reducible apply ev_bm0
  | with_reducible apply ev_bm
  | with_reducible apply ev_m0
  | with_reducible apply ev_m1
  | with_reducible apply ev_sl
  | with_reducible apply ev_notV
  | with_reducible apply ev_andV
  | with_reducible apply ev_orV
  | with_reducible apply ev_if
  | with_reducible apply ev_revS
  | with_reducible apply ev_call
  | with_reducible refine ev_callE X (fun σ C fs μ' d H' x c => hX _ _ _ _ _ x (up_raise c)) ?_
  | with_reducible apply et_test
  | with_reducible apply et_B
  | with_reducible apply et_not
  | with_reducible apply et_and
  | with_reducible apply et_or
  | with_reducible apply ea_nil
  | with_reducible apply ea_cons
  | with_reducible apply eo_none
  | with_reducible apply eo_some
  | with_reducible apply ro_eqI
  | with_reducible apply ro_neI
  | with_reducible apply ro_eqT
  | with_reducible apply ro_neT
  | with_reducible apply ro_eqB
  | with_reducible apply ro_eqS
  | with_reducible apply ro_neS
  | with_reducible apply ro_neB
  | with_reducible apply ro_I
  | with_reducible apply ro_IB
  | with_reducible apply ru_I
  | with_reducible apply rc_abs
  | with_reducible apply rc_int
  | with_reducible apply gt_name
  | with_reducible apply et_yes
  | with_reducible apply ro_isB
  | with_reducible apply ro_isNn
  | with_reducible apply ro_isNb
  | with_reducible apply ro_isNi
  | with_reducible apply ro_isNs
  | with_reducible apply ro_isNl
  | with_reducible apply ro_isNu
  | with_reducible apply ro_isNv
  | with_reducible apply ro_notNn
  | with_reducible apply ro_notNb
  | with_reducible apply ro_notNi
  | with_reducible apply ro_notNs
  | with_reducible apply ro_notNl
  | with_reducible apply ro_notNu
  | with_reducible apply ro_notNv
  | with_reducible refine rc_isiN (b := true) (by decide +kernel) ?_
  | with_reducible refine rc_isiN (b := false) (by decide +kernel) ?_
  | with_reducible refine rc_isiB (b := true) (by decide +kernel) ?_
  | with_reducible refine rc_isiB (b := false) (by decide +kernel) ?_
  | with_reducible refine rc_isiI (b := true) (by decide +kernel) ?_
  | with_reducible refine rc_isiI (b := false) (by decide +kernel) ?_
  | with_reducible refine rc_isiS (b := true) (by decide +kernel) ?_
  | with_reducible refine rc_isiS (b := false) (by decide +kernel) ?_
  | with_reducible refine rc_isiL (b := true) (by decide +kernel) ?_
  | with_reducible refine rc_isiL (b := false) (by decide +kernel) ?_
  | with_reducible refine rc_isiU (b := true) (by decide +kernel) ?_
  | with_reducible refine rc_isiU (b := false) (by decide +kernel) ?_
  | with_reducible apply gt_setL
  | with_reducible apply gt_setD
  | with_reducible apply ev_din
  | with_reducible refine rc_lenT (by first | omega | (simp only [List.length_take, List.length_drop, List.length_append, List.length_reverse, List.length_map, List.length_cons, List.length_nil]; omega) | decide +kernel) ?_
  | with_reducible apply rc_lenL
  | with_reducible apply rc_lenU
  | with_reducible refine rs_str (by first | omega | (simp only [List.length_take, List.length_drop, List.length_append, List.length_reverse, List.length_map, List.length_cons, List.length_nil]; omega) | decide +kernel) ?_
  | with_reducible refine ro_catT (by first | omega | (simp only [List.length_take, List.length_drop, List.length_append, List.length_reverse, List.length_map, List.length_cons, List.length_nil]; omega) | decide +kernel) ?_
  | with_reducible refine gt_tup rfl ?_
  | ((with_reducible show TK.Gts _ _ _ _ _ _); (first | apply gts_cons | apply gts_nil))
  | with_reducible refine ro_mul (by first | omega | decide) ?_
  | with_reducible refine ro_div (by first | omega | decide) ?_
  | with_reducible refine ro_mod (by first | omega | decide) ?_
  | (with_reducible refine ⟨_, rfl, ?_⟩)
  | (with_reducible refine ⟨_, _, rfl, ?_⟩)
  | (refine ⟨fun hb => ?_, fun hb => ?_⟩ <;> first | exact absurd hb (by decide) | (try simp only [decide_eq_true_eq, decide_eq_false_iff_not, Bool.false_eq_true, Bool.true_eq_false, reduceCtorEq, Bool.not_eq_true', Bool.not_eq_false', eq_self, not_true_eq_false, not_false_eq_true] at hb))
  | fail "stuck"))
local macro_rules | `(tactic| walk_at "s") => `(tactic| (first
  | with_reducible apply st_seq
  | with_reducible apply st_next
  | with_reducible apply st_asg
  | with_reducible apply st_ret
  | with_reducible apply st_retN
  | with_reducible apply st_if
  | with_reducible apply st_drop
  | with_reducible apply st_asgG
  | with_reducible apply st_par
  | with_reducible apply st_brk
  | with_reducible apply st_cont
  | walk_at "e"
  | fail "stuck"))
local macro_rules | `(tactic| walk_at "w") => `(tactic| (repeat first | exact wk_nil | apply wk_yes | apply wk_no))
local macro_rules | `(tactic| walk_at "len") => `(tactic| (intro ss μ R X h; first
  | (rcases h with ⟨_, rfl, _⟩ | ⟨_, _, _, rfl, _⟩ | ⟨_, _, rfl, _⟩ <;> rfl)
  | (rcases h with ⟨_, rfl, _⟩ | ⟨_, rfl, _⟩ <;> rfl)
  | (obtain ⟨_, rfl, _⟩ := h; rfl)
  | (obtain ⟨_, _, rfl, _⟩ := h; rfl)
  | (obtain ⟨_, _, _, rfl, _⟩ := h; rfl)
  | (obtain ⟨_, _, _, _, rfl, _⟩ := h; rfl)
  | (obtain ⟨_, _, _, _, _, rfl, _⟩ := h; rfl)
  | (obtain ⟨_, _, _, _, _, _, rfl, _⟩ := h; rfl)
  | (obtain ⟨_, _, _, _, _, _, _, rfl, _⟩ := h; rfl)
  | (obtain ⟨_, _, _, _, _, _, _, _, rfl, _⟩ := h; rfl)
  | (obtain ⟨_, _, _, _, _, _, _, _, _, rfl, _⟩ := h; rfl)))
local macro_rules | `(tactic| walk_at "t2") => `(tactic| (refine ev_tupS ?_; (repeat' walk_at "s"); refine ⟨by show 2 ≤ _; decide, ?_⟩; (repeat' walk_at "s")))

section
variable {P : Program} {w : World} {K : PySem.W.Frag} {mg : Str → Option Value} {base : Heap}

theorem sizes_eq (c : List Nat) : ((List.range c.length).filter fun i => decide (c.length % (i + 1) = 0)).filter (fun i => decide ((List.replicate (c.length / (i + 1)) (c.take (i + 1))).flatten = c)) = sizes c := by
  rw [List.filter_filter]
  unfold sizes
  congr 1
  funext i
  unfold isR
  rw [Bool.and_comm]
theorem core_len (w : List Nat) : (coreOf w).length ≤ w.length := by unfold coreOf; rw [List.length_take, List.length_drop]; omega
theorem outer_ok {w : List Nat} (h : w.all okc = true) : (outerOf w).all okc = true := take_ok h _
theorem core_ok {w : List Nat} (h : w.all okc = true) : (coreOf w).all okc = true := take_ok (drop_ok h _) _
theorem outer_len (w : List Nat) : (outerOf w).length ≤ w.length := by unfold outerOf; rw [List.length_take]; omega

theorem sc_core_in : FnScope N_core_in ["word"] (defScope s_core_in) := ⟨rfl, rfl, rfl, by decide +kernel, rfl, by decide +kernel, by decide +kernel⟩
theorem w_core_in (T : Hk K mg) : Kn P w K mg base 3 "core_in" (defArgs s_core_in) (defBody s_core_in) (defScope s_core_in) ["word"] (A_core_in) := by
  obtain ⟨fd, F⟩ := T.dd_core_in
  refine ⟨_, fd, T.g_core_in, F, fn_ok F sc_core_in (by walk_at "len") (fun cdv Ar outer s H E hr => ⟨_, (pss_cons (ps_set (i := 1) sc_core_in.nd rfl (by first | exact Or.inl rfl | exact Or.inr rfl) pe_int)
    (pss_cons (ps_while (passes_of rfl) (PW.pt (pw_and (pt_cmpR op_le (pe_op op_add (pe_op op_mul pe_int (pv 1)) pe_int) (pe_callB (call_lenK (K := K)) (by rfl) T.n_len (by decide +kernel) (pa_cons (pv 0) pa_nil)) (nomark _)) (pw_and1 (pt_cmpR op_eq (pe_ix ix_str (pv 0) (pv 1) (fun _ _ => rfl)) (pe_m0 PySem.F.slot_str_swapcase PySem.F.type_str_swapcase mt_swapcase (pe_ix ix_str (pv 0) (pe_op op_sub (pe_op op_sub (pe_callB (call_lenK (K := K)) (by rfl) T.n_len (by decide +kernel) (pa_cons (pv 0) pa_nil)) pe_int) (pv 1)) (fun _ _ => rfl))) (nomark _)))))
    (pss_one (ps_set (i := 1) sc_core_in.nd rfl (by first | exact Or.inl rfl | exact Or.inr rfl) (pe_op op_add (pv 1) pe_int))))
    (pss_one (ps_ret (pe_tup (pa_cons (pe_slice sl_str (pv 0) po_none (po_some (pv 1))) (pa_cons (pe_slice sl_str (pv 0) (po_some (pv 1)) (po_some (pe_op op_sub (pe_callB (call_lenK (K := K)) (by rfl) T.n_len (by decide +kernel) (pa_cons (pv 0) pa_nil)) (pv 1)))) pa_nil))))))), ?_⟩)⟩
  intro P0 μ μf ss R X hA hX
  obtain ⟨w, rfl, hl, hz, hR⟩ := hA
  have hc := cn_le w
  repeat' walk_at "s"
  refine st_while (fun m ρ μ' => ∃ i : Nat, m = cn w - i ∧ i ≤ cn w ∧ Wk ρ [some (tx w), some (I (i : Int))] ∧ μ' = μ) (cn w) ⟨0, rfl, Nat.zero_le _, by walk_at "w", rfl⟩ ?_
  rintro m ρ μ' ⟨i, rfl, hi, hw, rfl⟩
  refine et_wk hw ?_
  refine et_det (b0 := decide (i < cn w)) ?_ ⟨fun hb => ?_, fun hb => ?_⟩
  · have hs := cn_step hi
    repeat' walk_at "s"
    · have h1 : i < w.length := by omega
      have h2 : w.length - 1 - i < w.length := by omega
      refine ro_ixS (ch := w[i]) (by omega) (by rw [atI_natE, List.getElem?_eq_getElem h1]) ?_
      repeat' walk_at "s"
      refine ro_ixS (ch := w[w.length - 1 - i]) (by omega) (by rw [show (w.length : Int) - 1 - (i : Int) = ((w.length - 1 - i : Nat) : Int) by omega, atI_natE, List.getElem?_eq_getElem h2]) ?_
      repeat' walk_at "s"
      have ok2 : okc w[w.length - 1 - i] = true := List.all_eq_true.mp hl _ (List.getElem_mem h2)
      refine rm_swapcase (l' := [sw w[w.length - 1 - i]]) (by show 1 ≤ _; decide) (swap_ok (by simpa using ok2)) ?_
      repeat' walk_at "s"
      refine ⟨decide_eq_decide.mpr ?_, rfl⟩
      rw [hs, List.getElem?_eq_getElem h1, List.getElem?_eq_getElem h2]
      constructor
      · intro e; exact ⟨by omega, by injection e with e; rw [e]; rfl⟩
      · rintro ⟨_, e⟩; injection e with e; rw [e]
    · refine ⟨?_, rfl⟩
      rw [eq_comm, decide_eq_false_iff_not, hs]
      rintro ⟨h1, _⟩; omega
  · have hb := of_decide_eq_true hb
    refine st_wk hw ?_
    repeat' walk_at "s"
    exact ⟨cn w - (i + 1), by omega, i + 1, rfl, hb, by walk_at "w", rfl⟩
  · have hb := of_decide_eq_false hb
    have e : i = cn w := by omega
    subst e
    refine st_wk hw ?_
    repeat' walk_at "s"
    refine ev_tup ?_
    repeat' walk_at "s"
    refine ⟨[.str (TK.Tx (outerOf w)), .str (TK.Tx (coreOf w))], ?_, by show 2 ≤ _; decide, hR⟩
    rw [cut_b (by omega), show (w.length : Int) - (cn w : Int) = ((w.length - cn w : Nat) : Int) by omega, cut_ab (by omega) (by omega), show w.length - cn w - cn w = w.length - 2 * cn w by omega]
    rfl

theorem k_core_in (T : Hk K mg) : Fnk P w K mg base 3 1 "core_in" [] (fun ss => A_core_in (permL [0] N0 ss)) := by
  obtain ⟨f, fd, hm, F, G⟩ := w_core_in (P := P) (w := w) (base := base) T
  exact ⟨f, hm, callee_of F G _ [0] (fun kV doc pm an cdv ct us ws hu hw => match us, ws, hu, hw with | [a0], [], _, _ => rfl)⟩

theorem sc_core_of : FnScope N_core_of ["signed"] (defScope s_core_of) := ⟨rfl, rfl, rfl, by decide +kernel, rfl, by decide +kernel, by decide +kernel⟩
theorem w_core_of (T : Hk K mg) : Kn P w K mg base 5 "core_of" (defArgs s_core_of) (defBody s_core_of) (defScope s_core_of) ["signed"] (A_core_of K) := by
  obtain ⟨fd, F⟩ := T.dd_core_of
  have h_check_signed := k_check_signed (P := P) (w := w) (base := base) T
  have h_core_in := k_core_in (P := P) (w := w) (base := base) T
  have h_reduced_of := k_reduced_of (P := P) (w := w) (base := base) T
  refine ⟨_, fd, T.g_core_of, F, fn_ok F sc_core_of (by walk_at "len") (fun cdv Ar outer s H E hr => ⟨_, (pss_cons (ps_expr (pe_fn (E := WE (fun cls d _ H => E cls d H)) h_check_signed hr (by decide) (by rfl) (fun σ => passAt (takes_of rfl rfl rfl rfl) σ) (pa_cons (pv 0) pa_nil) pk_nil))
    (pss_one (ps_ret (pe_fn (E := noE) h_core_in hr (by decide) (by rfl) (fun _ => pass_no) (pa_cons (pe_fn (E := noE) h_reduced_of hr (by decide) (by rfl) (fun _ => pass_no) (pa_cons (pv 0) pa_nil) pk_nil) pa_nil) pk_nil)))), ?_⟩)⟩
  intro P0 μ μf ss R X hA hX
  rcases hA with ⟨l, rfl, hl, hR⟩ | ⟨s, rfl, hs, hx⟩
  · have h1 := good_len hl
    have h2 := red_len l
    repeat' walk_at "s"
    refine ⟨rfl, rfl, _, rfl, .inr ⟨l, rfl, hl, ?_⟩⟩
    repeat' walk_at "s"
    refine ⟨rfl, rfl, l, rfl, good_ok hl, by omega, ?_⟩
    repeat' walk_at "s"
    exact ⟨rfl, rfl, red l, rfl, red_ok (good_ok hl), by omega, hR⟩
  · repeat' walk_at "s"
    exact ⟨rfl, rfl, _, rfl, .inl ⟨hs, hx⟩⟩

theorem k_core_of_ksigned (T : Hk K mg) : Fnk P w K mg base 5 0 "core_of" ["signed"] (fun ss => A_core_of K (permL [0] N0 ss)) := by
  obtain ⟨f, fd, hm, F, G⟩ := w_core_of (P := P) (w := w) (base := base) T
  exact ⟨f, hm, callee_of F G _ [0] (fun kV doc pm an cdv ct us ws hu hw => match us, ws, hu, hw with | [], [b0], _, _ => rfl)⟩

theorem k_core_of (T : Hk K mg) : Fnk P w K mg base 5 1 "core_of" [] (fun ss => A_core_of K (permL [0] N0 ss)) := by
  obtain ⟨f, fd, hm, F, G⟩ := w_core_of (P := P) (w := w) (base := base) T
  exact ⟨f, hm, callee_of F G _ [0] (fun kV doc pm an cdv ct us ws hu hw => match us, ws, hu, hw with | [a0], [], _, _ => rfl)⟩

theorem sc_carried : FnScope N_carried ["one", "other"] (defScope s_carried) := ⟨rfl, rfl, rfl, by decide +kernel, rfl, by decide +kernel, by decide +kernel⟩
theorem w_carried (T : Hk K mg) : Kn P w K mg base 5 "carried" (defArgs s_carried) (defBody s_carried) (defScope s_carried) ["one", "other"] (A_carried K) := by
  obtain ⟨fd, F⟩ := T.dd_carried
  have h_check_signed := k_check_signed (P := P) (w := w) (base := base) T
  have h_core_in := k_core_in (P := P) (w := w) (base := base) T
  have h_reduced_of := k_reduced_of (P := P) (w := w) (base := base) T
  have h_undone_of := k_undone_of (P := P) (w := w) (base := base) T
  refine ⟨_, fd, T.g_carried, F, fn_ok F sc_carried (by walk_at "len") (fun cdv Ar outer s H E hr => ⟨_, (pss_cons (ps_expr (pe_fn (E := WE (fun cls d _ H => E cls d H)) h_check_signed hr (by decide) (by rfl) (fun σ => passAt (takes_of rfl rfl rfl rfl) σ) (pa_cons (pv 0) pa_nil) pk_nil))
    (pss_cons (ps_expr (pe_fn (E := WE (fun cls d _ H => E cls d H)) h_check_signed hr (by decide) (by rfl) (fun σ => passAt (takes_of rfl rfl rfl rfl) σ) (pa_cons (pv 1) pa_nil) pk_nil))
    (pss_cons (ps_asg (pe_fn (E := noE) h_core_in hr (by decide) (by rfl) (fun _ => pass_no) (pa_cons (pe_fn (E := noE) h_reduced_of hr (by decide) (by rfl) (fun _ => pass_no) (pa_cons (pv 0) pa_nil) pk_nil) pa_nil) pk_nil) (pg_tup rfl (pgs_cons (pg_name (i := 3) sc_carried.nd rfl (by first | exact Or.inl rfl | exact Or.inr rfl)) (pgs_cons (pg_name (i := 4) sc_carried.nd rfl (by first | exact Or.inl rfl | exact Or.inr rfl)) pgs_nil))))
    (pss_cons (ps_asg (pe_fn (E := noE) h_core_in hr (by decide) (by rfl) (fun _ => pass_no) (pa_cons (pe_fn (E := noE) h_reduced_of hr (by decide) (by rfl) (fun _ => pass_no) (pa_cons (pv 1) pa_nil) pk_nil) pa_nil) pk_nil) (pg_tup rfl (pgs_cons (pg_name (i := 5) sc_carried.nd rfl (by first | exact Or.inl rfl | exact Or.inr rfl)) (pgs_cons (pg_name (i := 6) sc_carried.nd rfl (by first | exact Or.inl rfl | exact Or.inr rfl)) pgs_nil))))
    (pss_cons (ps_if (pt_cmpR op_ne (pe_callB (call_lenK (K := K)) (by rfl) T.n_len (by decide +kernel) (pa_cons (pv 4) pa_nil)) (pe_callB (call_lenK (K := K)) (by rfl) T.n_len (by decide +kernel) (pa_cons (pv 6) pa_nil)) (nomark _)) (pss_one (ps_ret pe_non)) pss_nil)
    (pss_cons (ps_set (i := 2) sc_carried.nd rfl (by first | exact Or.inl rfl | exact Or.inr rfl) (pe_m1 PySem.F.slot_str_find PySem.F.type_str_find mt_find (pe_op op_add_str (pv 6) (pv 6)) (pv 4)))
    (pss_cons (ps_if (pt_cmpR op_lt (pv 2) pe_int (nomark _)) (pss_one (ps_ret pe_non)) pss_nil)
    (pss_one (ps_ret (pe_fn (E := noE) h_reduced_of hr (by decide) (by rfl) (fun _ => pass_no) (pa_cons (pe_op op_add_str (pe_op op_add_str (pv 3) (pe_fn (E := noE) h_undone_of hr (by decide) (by rfl) (fun _ => pass_no) (pa_cons (pe_slice sl_str (pv 6) po_none (po_some (pv 2))) pa_nil) pk_nil)) (pe_fn (E := noE) h_undone_of hr (by decide) (by rfl) (fun _ => pass_no) (pa_cons (pv 5) pa_nil) pk_nil)) pa_nil) pk_nil)))))))))), ?_⟩)⟩
  intro P0 μ μf ss R X hA hX
  obtain ⟨s, t, rfl, ⟨hs, hx⟩ | ⟨l, rfl, hl, ⟨ht, hx⟩ | ⟨m, rfl, hm, hR⟩⟩⟩ := hA
  · repeat' walk_at "s"
    exact ⟨rfl, rfl, _, rfl, .inl ⟨hs, hx⟩⟩
  · repeat' walk_at "s"
    refine ⟨rfl, rfl, _, rfl, .inr ⟨l, rfl, hl, ?_⟩⟩
    repeat' walk_at "s"
    exact ⟨rfl, rfl, _, rfl, .inl ⟨ht, hx⟩⟩
  · have h1 := good_len hl
    have h2 := good_len hm
    have h3 := red_len l
    have h4 := red_len m
    have h5 := core_len (red l)
    have h6 := core_len (red m)
    have h7 := outer_len (red l)
    have h8 := outer_len (red m)
    repeat' walk_at "s"
    refine ⟨rfl, rfl, _, rfl, .inr ⟨l, rfl, hl, ?_⟩⟩
    repeat' walk_at "s"
    refine ⟨rfl, rfl, _, rfl, .inr ⟨m, rfl, hm, ?_⟩⟩
    repeat' walk_at "s"
    refine ⟨rfl, rfl, l, rfl, good_ok hl, by omega, ?_⟩
    repeat' walk_at "s"
    refine ⟨rfl, rfl, red l, rfl, red_ok (good_ok hl), by omega, ?_⟩
    repeat' walk_at "s"
    refine ⟨rfl, rfl, m, rfl, good_ok hm, by omega, ?_⟩
    repeat' walk_at "s"
    refine ⟨rfl, rfl, red m, rfl, red_ok (good_ok hm), by omega, ?_⟩
    have okm := red_ok (good_ok hm)
    have okl := red_ok (good_ok hl)
    repeat' walk_at "s"
    · rw [carry_none (by unfold turnOf; rw [if_neg (by omega)])] at hR; exact hR
    · have hq : (coreOf (red l)).length = (coreOf (red m)).length := by omega
      have et : turnOf (coreOf (red l)) (coreOf (red m)) = fstAt (coreOf (red m) ++ coreOf (red m)) (coreOf (red l)) := by unfold turnOf; rw [if_pos hq]
      cases ef : fstAt (coreOf (red m) ++ coreOf (red m)) (coreOf (red l)) with
      | none =>
        rw [carry_none (et.trans ef)] at hR
        refine rm_findN ef ?_
        repeat' walk_at "s"
        exact hR
      | some t =>
        rw [carry_some (et.trans ef)] at hR
        refine rm_findS ef ?_
        repeat' walk_at "s"
        · omega
        · rw [cut_bmin]
          refine ⟨rfl, rfl, _, rfl, take_ok (core_ok okm) _, by rw [List.length_take]; omega, ?_⟩
          have h9 := red_len (iv ((coreOf (red m)).take t))
          rw [iv_len, List.length_take] at h9
          repeat' walk_at "s"
          refine ⟨rfl, rfl, _, rfl, outer_ok okm, by omega, ?_⟩
          have h10 := red_len (iv (outerOf (red m)))
          rw [iv_len] at h10
          repeat' walk_at "s"
          refine ⟨rfl, rfl, _, rfl, ?_, ?_, hR⟩
          · rw [List.all_append, List.all_append, outer_ok okl, red_ok (iv_ok (take_ok (core_ok okm) _)), red_ok (iv_ok (outer_ok okm))]; rfl
          · rw [List.length_append, List.length_append]; omega

theorem k_carried_kother_one (T : Hk K mg) : Fnk P w K mg base 5 0 "carried" ["other", "one"] (fun ss => A_carried K (permL [1, 0] N0 ss)) := by
  obtain ⟨f, fd, hm, F, G⟩ := w_carried (P := P) (w := w) (base := base) T
  exact ⟨f, hm, callee_of F G _ [1, 0] (fun kV doc pm an cdv ct us ws hu hw => match us, ws, hu, hw with | [], [b0, b1], _, _ => rfl)⟩

theorem k_carried (T : Hk K mg) : Fnk P w K mg base 5 2 "carried" [] (fun ss => A_carried K (permL [0, 1] N0 ss)) := by
  obtain ⟨f, fd, hm, F, G⟩ := w_carried (P := P) (w := w) (base := base) T
  exact ⟨f, hm, callee_of F G _ [0, 1] (fun kV doc pm an cdv ct us ws hu hw => match us, ws, hu, hw with | [a0, a1], [], _, _ => rfl)⟩

theorem sc_root_in : FnScope N_root_in ["word"] (defScope s_root_in) := ⟨rfl, rfl, rfl, by decide +kernel, rfl, by decide +kernel, by decide +kernel⟩
theorem w_root_in (T : Hk K mg) : Kn P w K mg base 5 "root_in" (defArgs s_root_in) (defBody s_root_in) (defScope s_root_in) ["word"] (A_root_in) := by
  obtain ⟨fd, F⟩ := T.dd_root_in
  have h_core_in := k_core_in (P := P) (w := w) (base := base) T
  have h_reduced_of := k_reduced_of (P := P) (w := w) (base := base) T
  have h_undone_of := k_undone_of (P := P) (w := w) (base := base) T
  refine ⟨_, fd, T.g_root_in, F, fn_ok F sc_root_in (by walk_at "len") (fun cdv Ar outer s H E hr => ⟨_, (pss_cons (ps_asg (pe_fn (E := noE) h_core_in hr (by decide) (by rfl) (fun _ => pass_no) (pa_cons (pv 0) pa_nil) pk_nil) (pg_tup rfl (pgs_cons (pg_name (i := 3) sc_root_in.nd rfl (by first | exact Or.inl rfl | exact Or.inr rfl)) (pgs_cons (pg_name (i := 4) sc_root_in.nd rfl (by first | exact Or.inl rfl | exact Or.inr rfl)) pgs_nil))))
    (pss_cons (ps_setLc (i := 1) (own := [("size", 2)]) rfl sc_root_in.nd rfl rfl (sw_true rfl rfl rfl (by decide +kernel)) (pi_range2 (by rfl) T.n_range (pa_cons pe_int (pa_cons (pe_op op_add (pe_callB (call_lenK (K := K)) (by rfl) T.n_len (by decide +kernel) (pa_cons (pv 4) pa_nil)) pe_int) pa_nil))) (blkOk_by (own := [("size", 2)]) (N := N_root_in) (sc := defScope s_root_in) (by decide +kernel)) (fun _ _ _ _ _ => (pg_name (i := 2) sc_root_in.nd rfl (by first | exact Or.inl rfl | exact Or.inr rfl))) (fun _ _ _ _ _ => (pts_one (pt_cmpR op_eq (pe_op op_mod (pe_callB (call_lenK (K := K)) (by rfl) T.n_len (by decide +kernel) (pa_cons (pv 4) pa_nil)) (pv 2)) pe_int (nomark _)))) (fun _ _ _ _ _ => (pv 2)))
    (pss_cons (ps_set (i := 2) sc_root_in.nd rfl (by first | exact Or.inl rfl | exact Or.inr rfl) (pe_ix (ix_listK (K := K)) (pe_lc (own := [("size", 2)]) rfl sc_root_in.nd (pi_listKK (K := K) (pv 1)) (blkOk_by (own := [("size", 2)]) (N := N_root_in) (sc := defScope s_root_in) (by decide +kernel)) (fun _ _ _ _ _ => (pg_name (i := 2) sc_root_in.nd rfl (by first | exact Or.inl rfl | exact Or.inr rfl))) (fun _ _ _ _ _ => (pts_one (pt_cmpR op_eq (pe_op op_repS (pe_slice sl_str (pv 4) po_none (po_some (pv 2))) (pe_op op_fdiv (pe_callB (call_lenK (K := K)) (by rfl) T.n_len (by decide +kernel) (pa_cons (pv 4) pa_nil)) (pv 2))) (pv 4) (nomark _)))) (fun _ _ _ _ _ => (pv 2))) pe_int (fun _ _ => rfl)))
    (pss_one (ps_ret (pe_tup (pa_cons (pe_fn (E := noE) h_reduced_of hr (by decide) (by rfl) (fun _ => pass_no) (pa_cons (pe_op op_add_str (pe_op op_add_str (pv 3) (pe_slice sl_str (pv 4) po_none (po_some (pv 2)))) (pe_fn (E := noE) h_undone_of hr (by decide) (by rfl) (fun _ => pass_no) (pa_cons (pv 3) pa_nil) pk_nil)) pa_nil) pk_nil) (pa_cons (pe_op op_fdiv (pe_callB (call_lenK (K := K)) (by rfl) T.n_len (by decide +kernel) (pa_cons (pv 4) pa_nil)) (pv 2)) pa_nil)))))))), ?_⟩)⟩
  intro P0 μ μf ss R X hA hX
  obtain ⟨w, rfl, hl, hz, hne, hR⟩ := hA
  have h1 := core_len w
  have h2 := outer_len w
  repeat' walk_at "s"
  refine ⟨rfl, rfl, w, rfl, hl, by omega, ?_⟩
  repeat' walk_at "s"
  refine ev_lcSel (α := Nat) (ei_rng2 ?_)
  repeat' walk_at "s"
  refine ⟨by omega, List.range (coreOf w).length, fun i => I (1 + (i : Int)), fun i => decide ((coreOf w).length % (i + 1) = 0), fun i => .int (1 + (i : Int)), by rw [show (((coreOf w).length : Int) + 1 - 1).toNat = (coreOf w).length by omega], by rw [List.length_range]; omega, fun i hi => gc_name (by decide) ?_, ?_⟩
  · repeat' walk_at "s"
    refine ⟨decide_eq_decide.mpr (by rw [show (1 + (i : Int)) = ((i + 1 : Nat) : Int) by omega, ← Int.natCast_emod]; omega), rfl, fun _ => ?_⟩
    repeat' walk_at "s"
    exact ⟨rfl, rfl⟩
  · repeat' walk_at "s"
    refine ev_lcSel (α := Nat) (ei_list ?_)
    repeat' walk_at "s"
    refine ⟨_, fun i => I (1 + (i : Int)), fun i => decide ((List.replicate ((coreOf w).length / (i + 1)) ((coreOf w).take (i + 1))).flatten = coreOf w), fun i => .int (1 + (i : Int)), by rw [List.map_map]; rfl, ?_, fun i hi => gc_name (by decide) ?_, ?_⟩
    · have := (List.filter_sublist (p := fun i => decide ((coreOf w).length % (i + 1) = 0)) (l := List.range (coreOf w).length)).length_le
      rw [List.length_range] at this; omega
    · have hi1 := List.mem_range.mp (List.mem_filter.mp hi).1
      have hd : (coreOf w).length / (i + 1) ≤ (coreOf w).length := Nat.div_le_self _ _
      have hd0 : (0 : Int) ≤ (((coreOf w).length / (i + 1) : Nat) : Int) := Int.natCast_nonneg _
      have e1 : ((coreOf w).length : Int) / (1 + (i : Int)) = (((coreOf w).length / (i + 1) : Nat) : Int) := by
        rw [show (1 + (i : Int)) = ((i + 1 : Nat) : Int) by omega]; exact (Int.natCast_ediv _ _).symm
      repeat' walk_at "s"
      rw [show (1 + (i : Int)) = ((i + 1 : Nat) : Int) by omega, cut_bmin, ← Int.natCast_ediv]
      refine ro_repS (by omega) (by omega) ?_ ?_
      · rw [Int.toNat_natCast, List.length_take]
        have := Nat.mul_le_mul (Nat.min_le_right (i + 1) (coreOf w).length) hd
        have h3 : (coreOf w).length * (coreOf w).length ≤ 60 * 60 := Nat.mul_le_mul (by omega) (by omega)
        omega
      · repeat' walk_at "s"
        refine ⟨by rw [Int.toNat_natCast], rfl, fun _ => ?_⟩
        repeat' walk_at "s"
        exact ⟨rfl, rfl⟩
    · rw [sizes_eq]
      obtain ⟨r, e, g1, g2, g3⟩ := rs_head hne
      rw [e, List.map_cons]
      repeat' walk_at "s"
      refine ro_ixL (d := .int (1 + ((rs (coreOf w) - 1 : Nat) : Int))) (by rw [atI_zero]; rfl) ?_
      rw [show (1 + ((rs (coreOf w) - 1 : Nat) : Int)) = (rs (coreOf w) : Int) by omega]
      repeat' walk_at "s"
      refine ev_tup ?_
      repeat' walk_at "s"
      rw [cut_bmin]
      repeat' walk_at "s"
      refine ⟨rfl, rfl, _, rfl, outer_ok hl, by omega, ?_⟩
      have h10 := red_len (iv (outerOf w))
      rw [iv_len] at h10
      have oo := outer_ok hl
      repeat' walk_at "s"
      refine ⟨rfl, rfl, _, rfl, ?_, ?_, ?_⟩
      · rw [List.all_append, List.all_append, oo, take_ok (core_ok hl), red_ok (iv_ok oo)]; rfl
      · simp only [List.length_append, List.length_take]; omega
      repeat' walk_at "s"
      refine ⟨[.str (TK.Tx (rootOf w)), .int (numOf w)], ?_, by show 2 ≤ _; decide, hR⟩
      rw [← Int.natCast_ediv]
      unfold rootOf
      rw [outer_root]
      rfl

theorem k_root_in (T : Hk K mg) : Fnk P w K mg base 5 1 "root_in" [] (fun ss => A_root_in (permL [0] N0 ss)) := by
  obtain ⟨f, fd, hm, F, G⟩ := w_root_in (P := P) (w := w) (base := base) T
  exact ⟨f, hm, callee_of F G _ [0] (fun kV doc pm an cdv ct us ws hu hw => match us, ws, hu, hw with | [a0], [], _, _ => rfl)⟩

theorem sc_signed_root : FnScope N_signed_root ["signed"] (defScope s_signed_root) := ⟨rfl, rfl, rfl, by decide +kernel, rfl, by decide +kernel, by decide +kernel⟩
theorem w_signed_root (T : Hk K mg) : Kn P w K mg base 6 "signed_root" (defArgs s_signed_root) (defBody s_signed_root) (defScope s_signed_root) ["signed"] (A_signed_root K) := by
  obtain ⟨fd, F⟩ := T.dd_signed_root
  have h_check_signed := k_check_signed (P := P) (w := w) (base := base) T
  have h_reduced_of := k_reduced_of (P := P) (w := w) (base := base) T
  have h_root_in := k_root_in (P := P) (w := w) (base := base) T
  refine ⟨_, fd, T.g_signed_root, F, fn_ok F sc_signed_root (by walk_at "len") (fun cdv Ar outer s H E hr => ⟨_, (pss_cons (ps_expr (pe_fn (E := WE (fun cls d _ H => E cls d H)) h_check_signed hr (by decide) (by rfl) (fun σ => passAt (takes_of rfl rfl rfl rfl) σ) (pa_cons (pv 0) pa_nil) pk_nil))
    (pss_cons (ps_set (i := 1) sc_signed_root.nd rfl (by first | exact Or.inl rfl | exact Or.inr rfl) (pe_fn (E := noE) h_reduced_of hr (by decide) (by rfl) (fun _ => pass_no) (pa_cons (pv 0) pa_nil) pk_nil))
    (pss_cons (ps_if (pt_cmpR op_eq (pv 1) pe_str (nomark _)) (pss_one (ps_raise (W := fun cls d _ H => E cls d H) rfl (takes_of rfl rfl rfl rfl) (T.pm0_Empty))) pss_nil)
    (pss_one (ps_ret (pe_fn (E := noE) h_root_in hr (by decide) (by rfl) (fun _ => pass_no) (pa_cons (pv 1) pa_nil) pk_nil)))))), ?_⟩)⟩
  intro P0 μ μf ss R X hA hX
  rcases hA with ⟨l, rfl, hl, hR⟩ | ⟨s, rfl, hs, hx⟩
  · have h1 := good_len hl
    have h2 := red_len l
    repeat' walk_at "s"
    refine ⟨rfl, rfl, _, rfl, .inr ⟨l, rfl, hl, ?_⟩⟩
    repeat' walk_at "s"
    refine ⟨rfl, rfl, l, rfl, good_ok hl, by omega, ?_⟩
    repeat' walk_at "s"
    · have e : red l = [] := hb
      rcases hR with ⟨h, _⟩ | ⟨_, h⟩
      · exact absurd e h
      · exact st_raise0 (W := fun cls d _ H => E cls d H) X (fun fs μ' σ d H' x c => hX _ _ _ _ _ x (up_raise c)) h
    · rcases hR with ⟨h, hR⟩ | ⟨h, _⟩
      · exact ⟨rfl, rfl, _, rfl, red_ok (good_ok hl), by omega, core_ne h, hR⟩
      · exact absurd h hb
  · repeat' walk_at "s"
    exact ⟨rfl, rfl, _, rfl, .inl ⟨hs, hx⟩⟩

theorem k_signed_root_ksigned (T : Hk K mg) : Fnk P w K mg base 6 0 "signed_root" ["signed"] (fun ss => A_signed_root K (permL [0] N0 ss)) := by
  obtain ⟨f, fd, hm, F, G⟩ := w_signed_root (P := P) (w := w) (base := base) T
  exact ⟨f, hm, callee_of F G _ [0] (fun kV doc pm an cdv ct us ws hu hw => match us, ws, hu, hw with | [], [b0], _, _ => rfl)⟩

theorem k_signed_root (T : Hk K mg) : Fnk P w K mg base 6 1 "signed_root" [] (fun ss => A_signed_root K (permL [0] N0 ss)) := by
  obtain ⟨f, fd, hm, F, G⟩ := w_signed_root (P := P) (w := w) (base := base) T
  exact ⟨f, hm, callee_of F G _ [0] (fun kV doc pm an cdv ct us ws hu hw => match us, ws, hu, hw with | [a0], [], _, _ => rfl)⟩

end
end K

namespace K
open PySem PySem.Spec PyProof.Rows L2 TK

local macro_rules | `(tactic| walk_at "v") => `(tactic| ((with_reducible refine ev_var (s := ?sv) ?hv ?kv); (case hv => exact rfl)))
set_option hygiene false
local macro_rules | `(tactic| walk_at "e") => `(tactic| (first
  | walk_at "v"
  | with_reducible apply ev_ci
  | with_reducible apply ev_cb
  | with_reducible apply ev_cn
  | with_reducible apply ev_cs
  | with_reducible apply ev_cv
  | with_reducible apply ev_op
  | with_reducible apply ev_un
  | with_reducible apply ev_CB
  | with_reducible apply ev_bm0
  | with_reducible apply ev_bm
  | with_reducible apply ev_m0
  | with_reducible apply ev_m1
  | with_reducible apply ev_sl
  | with_reducible apply ev_notV
  | with_reducible apply ev_andV
  | with_reducible apply ev_orV
  | with_reducible apply ev_if
  | with_reducible apply ev_revS
  | with_reducible apply ev_call
  | with_reducible refine ev_callE X (fun σ C fs μ' d H' x c => hX _ _ _ _ _ x (up_raise c)) ?_
  | with_reducible apply et_test
  | with_reducible apply et_B
  | with_reducible apply et_not
  | with_reducible apply et_and
  | with_reducible apply et_or
  | with_reducible apply ea_nil
  | with_reducible apply ea_cons
  | with_reducible apply eo_none
  | with_reducible apply eo_some
  | with_reducible apply ro_eqI
  | with_reducible apply ro_neI
  | with_reducible apply ro_eqT
  | with_reducible apply ro_neT
  | with_reducible apply ro_eqB
  | with_reducible apply ro_eqS
  | with_reducible apply ro_neS
  | with_reducible apply ro_neB
  | with_reducible apply ro_I
  | with_reducible apply ro_IB
  | with_reducible apply ru_I
  | with_reducible apply rc_abs
  | with_reducible apply rc_int
  | with_reducible apply gt_name
  | with_reducible apply et_yes
  | with_reducible apply ro_isB
  | with_reducible apply ro_isNn
  | with_reducible apply ro_isNb
  | with_reducible apply ro_isNi
  | with_reducible apply ro_isNs
  | with_reducible apply ro_isNl
  | with_reducible apply ro_isNu
  | with_reducible apply ro_isNv
  | with_reducible apply ro_notNn
  | with_reducible apply ro_notNb
  | with_reducible apply ro_notNi
  | with_reducible apply ro_notNs
  | with_reducible apply ro_notNl
  | with_reducible apply ro_notNu
  | with_reducible apply ro_notNv
  | with_reducible refine rc_isiN (b := true) (by decide +kernel) ?_
  | with_reducible refine rc_isiN (b := false) (by decide +kernel) ?_
  | with_reducible refine rc_isiB (b := true) (by decide +kernel) ?_
  | with_reducible refine rc_isiB (b := false) (by decide +kernel) ?_
  | with_reducible refine rc_isiI (b := true) (by decide +kernel) ?_
  | with_reducible refine rc_isiI (b := false) (by decide +kernel) ?_
  | with_reducible refine rc_isiS (b := true) (by decide +kernel) ?_
  | with_reducible refine rc_isiS (b := false) (by decide +kernel) ?_
  | with_reducible refine rc_isiL (b := true) (by decide +kernel) ?_
  | with_reducible refine rc_isiL (b := false) (by decide +kernel) ?_
  | with_reducible refine rc_isiU (b := true) (by decide +kernel) ?_
  | with_reducible refine rc_isiU (b := false) (by decide +kernel) ?_
  | with_reducible apply gt_setL
  | with_reducible apply gt_setD
  | with_reducible apply ev_din
  | with_reducible refine rc_lenT (by first | omega | (simp only [List.length_take, List.length_drop, List.length_append, List.length_reverse, List.length_map, List.length_cons, List.length_nil]; omega) | decide +kernel) ?_
  | with_reducible apply rc_lenL
  | with_reducible apply rc_lenU
  | with_reducible refine rs_str (by first | omega | (simp only [List.length_take, List.length_drop, List.length_append, List.length_reverse, List.length_map, List.length_cons, List.length_nil]; omega) | decide +kernel) ?_
  | with_reducible refine ro_catT (by first | omega | (simp only [List.length_take, List.length_drop, List.length_append, List.length_reverse, List.length_map, List.length_cons, List.length_nil]; omega) | decide +kernel) ?_
  | with_reducible refine gt_tup rfl ?_
  | ((with_reducible show TK.Gts _ _ _ _ _ _); (first | apply gts_cons | apply gts_nil))
  | with_reducible refine ro_mul (by first | omega | decide) ?_
  | with_reducible refine ro_div (by first | omega | decide) ?_
  | with_reducible refine ro_mod (by first | omega | decide) ?_
  | (with_reducible refine ⟨_, rfl, ?_⟩)
  | (with_reducible refine ⟨_, _, rfl, ?_⟩)
  | (refine ⟨fun hb => ?_, fun hb => ?_⟩ <;> first | exact absurd hb (by decide) | (try simp only [decide_eq_true_eq, decide_eq_false_iff_not, Bool.false_eq_true, Bool.true_eq_false, reduceCtorEq, Bool.not_eq_true', Bool.not_eq_false', eq_self, not_true_eq_false, not_false_eq_true] at hb))
  | fail "stuck"))
local macro_rules | `(tactic| walk_at "s") => `(tactic| (first
  | with_reducible apply st_seq
  | with_reducible apply st_next
  | with_reducible apply st_asg
  | with_reducible apply st_ret
  | with_reducible apply st_retN
  | with_reducible apply st_if
  | with_reducible apply st_drop
  | with_reducible apply st_asgG
  | with_reducible apply st_par
  | with_reducible apply st_brk
  | with_reducible apply st_cont
  | walk_at "e"
  | fail "stuck"))
local macro_rules | `(tactic| walk_at "w") => `(tactic| (repeat first | exact wk_nil | apply wk_yes | apply wk_no))
local macro_rules | `(tactic| walk_at "len") => `(tactic| (intro ss μ R X h; first
  | (rcases h with ⟨_, rfl, _⟩ | ⟨_, _, _, rfl, _⟩ | ⟨_, _, rfl, _⟩ <;> rfl)
  | (rcases h with ⟨_, rfl, _⟩ | ⟨_, rfl, _⟩ <;> rfl)
  | (obtain ⟨_, rfl, _⟩ := h; rfl)
  | (obtain ⟨_, _, rfl, _⟩ := h; rfl)
  | (obtain ⟨_, _, _, rfl, _⟩ := h; rfl)
  | (obtain ⟨_, _, _, _, rfl, _⟩ := h; rfl)
  | (obtain ⟨_, _, _, _, _, rfl, _⟩ := h; rfl)
  | (obtain ⟨_, _, _, _, _, _, rfl, _⟩ := h; rfl)
  | (obtain ⟨_, _, _, _, _, _, _, rfl, _⟩ := h; rfl)
  | (obtain ⟨_, _, _, _, _, _, _, _, rfl, _⟩ := h; rfl)
  | (obtain ⟨_, _, _, _, _, _, _, _, _, rfl, _⟩ := h; rfl)))
local macro_rules | `(tactic| walk_at "t2") => `(tactic| (refine ev_tupS ?_; (repeat' walk_at "s"); refine ⟨by show 2 ≤ _; decide, ?_⟩; (repeat' walk_at "s")))

section
variable {P : Program} {w : World} {K : PySem.W.Frag} {mg : Str → Option Value} {base : Heap}


theorem sc__law_cell : FnScope N__law_cell ["script", "k"] (defScope s__law_cell) := ⟨rfl, rfl, rfl, by decide +kernel, rfl, by decide +kernel, by decide +kernel⟩
theorem w__law_cell (T : Hk K mg) : Kn P w K mg base 3 "_law_cell" (defArgs s__law_cell) (defBody s__law_cell) (defScope s__law_cell) ["script", "k"] (A__law_cell K) := by
  obtain ⟨fd, F⟩ := T.dd__law_cell
  refine ⟨_, fd, T.g__law_cell, F, fn_ok F sc__law_cell (by walk_at "len") (fun cdv Ar outer s H E hr => ⟨_, (pss_one (ps_ret (pe_ifExp (pt_cmpR op_lt (pv 1) (pe_callB (call_lenK (K := K)) (by rfl) T.n_len (by decide +kernel) (pa_cons (pv 0) pa_nil)) (nomark _)) (pe_ix (ix_listK (K := K)) (pv 0) (pv 1) (fun _ _ => rfl)) (pe_op op_add (pe_op op_mul pe_int (pv 1)) (pe_op op_mod (pe_callTy call_int1 (by rfl) T.n_int (by decide +kernel) (pa_cons (pe_callB (cr_sum rfl) (by rfl) T.n_sum (by decide +kernel) (pa_cons (pe_slice (sl_listK (K := K)) (pv 0) po_none (po_some pe_int)) pa_nil)) pa_nil)) pe_int))))), ?_⟩)⟩
  intro P0 μ μf ss R X hA hX
  obtain ⟨ns, k, rfl, hk, hR⟩ := hA
  repeat' walk_at "s"
  refine rc_lenSc ?_
  repeat' walk_at "s"
  · have h2 : k < ns.length := by omega
    exact ro_ixSc (d := ns[k]) (by rw [atI_natE, List.getElem?_eq_getElem h2]) (hR _)
  · refine rs_Sc ?_
    repeat' walk_at "s"
    refine rc_sum ?_
    repeat' walk_at "s"
    exact hR _

theorem k__law_cell (T : Hk K mg) : Fnk P w K mg base 3 2 "_law_cell" [] (fun ss => A__law_cell K (permL [0, 1] N0 ss)) := by
  obtain ⟨f, fd, hm, F, G⟩ := w__law_cell (P := P) (w := w) (base := base) T
  exact ⟨f, hm, callee_of F G _ [0, 1] (fun kV doc pm an cdv ct us ws hu hw => match us, ws, hu, hw with | [a0, a1], [], _, _ => rfl)⟩

theorem sc__law_box : FnScope N__law_box ["great"] (defScope s__law_box) := ⟨rfl, rfl, rfl, by decide +kernel, rfl, by decide +kernel, by decide +kernel⟩
theorem w__law_box (T : Hk K mg) : Kn P w K mg base 3 "_law_box" (defArgs s__law_box) (defBody s__law_box) (defScope s__law_box) ["great"] (A__law_box) := by
  obtain ⟨fd, F⟩ := T.dd__law_box
  refine ⟨_, fd, T.g__law_box, F, fn_ok F sc__law_box (by walk_at "len") (fun cdv Ar outer s H E hr => ⟨_, (pss_one (ps_ret (pe_lst (pa_cons (pe_callB call_abs (by rfl) T.n_abs (by decide +kernel) (pa_cons (pv 0) pa_nil)) (pa_cons (pe_cmpR op_ge (pe_callB call_abs (by rfl) T.n_abs (by decide +kernel) (pa_cons (pv 0) pa_nil)) (pe_op op_pow pe_int pe_int) (nomark _)) (pa_cons (pe_op op_mod (pe_callTy call_int1 (by rfl) T.n_int (by decide +kernel) (pa_cons (pe_callB call_abs (by rfl) T.n_abs (by decide +kernel) (pa_cons (pv 0) pa_nil)) pa_nil)) pe_int) (pa_cons pe_int pa_nil))))))), ?_⟩)⟩
  intro P0 μ μf ss R X hA hX
  obtain ⟨x, rfl, hR⟩ := hA
  repeat' walk_at "s"
  refine ev_lstM ?_
  repeat' walk_at "s"
  refine ro_pow (by decide) ?_
  repeat' walk_at "s"
  refine ⟨by show 4 ≤ _; decide, fun p => hR p _ ⟨_, _, _, 0, rfl, ?_, ?_, ?_, Nat.le_refl _⟩⟩
  · split <;> omega
  · exact Int.emod_nonneg _ (by decide)
  · exact Int.emod_lt_of_pos _ (by decide)

theorem k__law_box (T : Hk K mg) : Fnk P w K mg base 3 1 "_law_box" [] (fun ss => A__law_box (permL [0] N0 ss)) := by
  obtain ⟨f, fd, hm, F, G⟩ := w__law_box (P := P) (w := w) (base := base) T
  exact ⟨f, hm, callee_of F G _ [0] (fun kV doc pm an cdv ct us ws hu hw => match us, ws, hu, hw with | [a0], [], _, _ => rfl)⟩

theorem sc__law_take : FnScope N__law_take ["box", "many"] (defScope s__law_take) := ⟨rfl, rfl, rfl, by decide +kernel, rfl, by decide +kernel, by decide +kernel⟩
theorem w__law_take (T : Hk K mg) : Kn P w K mg base 3 "_law_take" (defArgs s__law_take) (defBody s__law_take) (defScope s__law_take) ["box", "many"] (A__law_take) := by
  obtain ⟨fd, F⟩ := T.dd__law_take
  refine ⟨_, fd, T.g__law_take, F, fn_ok F sc__law_take (by walk_at "len") (fun cdv Ar outer s H E hr => ⟨_, (pss_cons (ps_if (PW.pt (pw_and (pt_val (pe_ix (ix_listK (K := K)) (pv 0) pe_int (fun _ _ => rfl))) (pw_and1 (pt_cmpR op_gt (pe_ix (ix_listK (K := K)) (pv 0) pe_int (fun _ _ => rfl)) pe_int (nomark _))))) (pss_cons (ps_set (i := 3) sc__law_take.nd rfl (by first | exact Or.inl rfl | exact Or.inr rfl) (pe_op op_mod (pe_callTy call_int1 (by rfl) T.n_int (by decide +kernel) (pa_cons (pe_ix (ix_listK (K := K)) (pv 0) pe_int (fun _ _ => rfl)) pa_nil)) (pv 1)))
    (pss_cons (ps_asg (pe_op op_fdiv (pe_ix (ix_listK (K := K)) (pv 0) pe_int (fun _ _ => rfl)) (pv 1)) (pg_sub (pv 0) pe_int set_list))
    (pss_one (ps_ret (pv 3))))) pss_nil)
    (pss_cons (ps_asg (pe_op op_add (pe_ix (ix_listK (K := K)) (pv 0) pe_int (fun _ _ => rfl)) pe_int) (pg_sub (pv 0) pe_int set_list))
    (pss_cons (ps_set (i := 2) sc__law_take.nd rfl (by first | exact Or.inl rfl | exact Or.inr rfl) (pe_op op_mod (pe_callTy call_int1 (by rfl) T.n_int (by decide +kernel) (pa_cons (pe_op op_pow (pe_op op_add (pe_op op_add (pe_ix (ix_listK (K := K)) (pv 0) pe_int (fun _ _ => rfl)) (pe_op op_mul pe_int (pe_ix (ix_listK (K := K)) (pv 0) pe_int (fun _ _ => rfl)))) pe_int) pe_int) pa_nil)) pe_int))
    (pss_one (ps_ret (pe_op op_mod (pe_callTy call_int1 (by rfl) T.n_int (by decide +kernel) (pa_cons (pe_op op_fdiv (pe_op op_mod (pe_callTy call_int1 (by rfl) T.n_int (by decide +kernel) (pa_cons (pe_op op_pow (pe_op op_add (pe_op op_mul (pv 2) pe_int) (pe_op op_mul pe_int (pe_ix (ix_listK (K := K)) (pv 0) pe_int (fun _ _ => rfl)))) pe_int) pa_nil)) pe_int) pe_int) pa_nil)) (pv 1))))))), ?_⟩)⟩
  intro P0 μ μf ss R X hA hX
  obtain ⟨p, k, n, many, μ0, rfl, hbx, hn, hm1, hm2, hR⟩ := hA
  obtain ⟨o, hk, a, b, c, m, rfl, ha, hc1, hc2, hmn⟩ := hbx.get
  have hkl : k < μ.length := (List.getElem?_eq_some_iff.mp hk).1
  have hmm : (0 : Int) < (many : Int) := by omega
  refine st_seq (st_if (et_det (b0 := b && decide (0 < a)) ?_ ⟨fun hb => ?_, fun hb => ?_⟩))
  · repeat' walk_at "s"
    refine ro_ixM (n := k) hk (s := B b) rfl ?_
    repeat' walk_at "s"
    · refine ro_ixM (n := k) hk (s := I a) rfl ?_
      repeat' walk_at "s"
      refine ⟨?_, rfl⟩
      rw [hb]; rfl
    · refine ⟨?_, rfl⟩
      rw [hb]; rfl
  · have ha0 : 0 < a := of_decide_eq_true ((Bool.and_eq_true _ _).mp hb).2
    repeat' walk_at "s"
    refine ro_ixM (n := k) hk (s := I a) rfl ?_
    repeat' walk_at "s"
    refine ro_ixM (n := k) hk (s := I a) rfl ?_
    repeat' walk_at "s"
    refine ⟨p, k, _, 0, 0, rfl, rfl, hk, rfl, ?_⟩
    repeat' walk_at "s"
    have h1 := Int.emod_nonneg a (b := (many : Int)) (by omega)
    have h2 := Int.emod_lt_of_pos a hmm
    have h3 := hR (a % (many : Int)).toNat (by omega) (μ.set k (p, .lst [I (a / (many : Int)), B b, I c, I (m : Int)])) (hbx.set ⟨_, _, _, m, rfl, Int.ediv_nonneg ha (by omega), hc1, hc2, by omega⟩)
    rw [Int.toNat_of_nonneg h1] at h3
    exact h3
  · repeat' walk_at "s"
    refine ro_ixM (n := k) hk (s := I (m : Int)) rfl ?_
    repeat' walk_at "s"
    refine ⟨p, k, _, 3, 3, rfl, rfl, hk, rfl, ?_⟩
    have hk2 : (μ.set k (p, MO.lst [I a, B b, I c, I ((m : Int) + 1)]))[k]? = some (p, MO.lst [I a, B b, I c, I ((m : Int) + 1)]) := List.getElem?_set_self hkl
    have hbx2 : BoxAt μ0 k p (n + 1) (μ.set k (p, MO.lst [I a, B b, I c, I ((m : Int) + 1)])) := hbx.set ⟨_, _, _, m + 1, by rfl, ha, hc1, hc2, by omega⟩
    repeat' walk_at "s"
    refine ro_ixM (n := k) hk2 (s := I c) rfl ?_
    repeat' walk_at "s"
    refine ro_ixM (n := k) hk2 (s := I ((m : Int) + 1)) rfl ?_
    repeat' walk_at "s"
    refine ro_pow ⟨by decide, by decide, by omega⟩ ?_
    repeat' walk_at "s"
    generalize (c + 15485737 * ((m : Int) + 1) + 179424389) ^ (5 : Int).toNat = z
    have z1 := Int.emod_nonneg z (b := 2147483647) (by decide)
    have z2 := Int.emod_lt_of_pos z (b := 2147483647) (by decide)
    generalize z % 2147483647 = y at z1 z2 ⊢
    refine ro_ixM (n := k) hk2 (s := I ((m : Int) + 1)) rfl ?_
    repeat' walk_at "s"
    refine ro_pow ⟨by decide, by decide, by omega⟩ ?_
    repeat' walk_at "s"
    generalize (y * 48271 + 7573 * ((m : Int) + 1)) ^ (3 : Int).toNat % 2147483587 / 64 = x
    have h1 := Int.emod_nonneg x (b := (many : Int)) (by omega)
    have h2 := Int.emod_lt_of_pos x hmm
    have h3 := hR (x % (many : Int)).toNat (by omega) _ hbx2
    rw [Int.toNat_of_nonneg h1] at h3
    exact h3

theorem k__law_take (T : Hk K mg) : Fnk P w K mg base 3 2 "_law_take" [] (fun ss => A__law_take (permL [0, 1] N0 ss)) := by
  obtain ⟨f, fd, hm, F, G⟩ := w__law_take (P := P) (w := w) (base := base) T
  exact ⟨f, hm, callee_of F G _ [0, 1] (fun kV doc pm an cdv ct us ws hu hw => match us, ws, hu, hw with | [a0, a1], [], _, _ => rfl)⟩

end
end K

namespace K
open PySem PySem.Spec PyProof.Rows L2 TK

local macro_rules | `(tactic| walk_at "v") => `(tactic| ((with_reducible refine ev_var (s := ?sv) ?hv ?kv); (case hv => exact rfl)))
set_option hygiene false
local macro_rules | `(tactic| walk_at "e") => `(tactic| (first
  | walk_at "v"
  | with_reducible apply ev_ci
  | with_reducible apply ev_cb
  | with_reducible apply ev_cn
  | with_reducible apply ev_cs
  | with_reducible apply ev_cv
  | with_reducible apply ev_op
  | with_reducible apply ev_un
  | with_reducible apply ev_CB
  | with_reducible apply ev_bm0
  | with_reducible apply ev_bm
  | with_reducible apply ev_m0
  | with_reducible apply ev_m1
  | with_reducible apply ev_sl
  | with_reducible apply ev_notV
  | with_reducible apply ev_andV
  | with_reducible apply ev_orV
  | with_reducible apply ev_if
  | with_reducible apply ev_revS
  | with_reducible apply ev_call
  | with_reducible refine ev_callE X (fun σ C fs μ' d H' x c => hX _ _ _ _ _ x (up_raise c)) ?_
  | with_reducible apply et_test
  | with_reducible apply et_B
  | with_reducible apply et_not
  | with_reducible apply et_and
  | with_reducible apply et_or
  | with_reducible apply ea_nil
  | with_reducible apply ea_cons
  | with_reducible apply eo_none
  | with_reducible apply eo_some
  | with_reducible apply ro_eqI
  | with_reducible apply ro_neI
  | with_reducible apply ro_eqT
  | with_reducible apply ro_neT
  | with_reducible apply ro_eqB
  | with_reducible apply ro_eqS
  | with_reducible apply ro_neS
  | with_reducible apply ro_neB
  | with_reducible apply ro_I
  | with_reducible apply ro_IB
  | with_reducible apply ru_I
  | with_reducible apply rc_abs
  | with_reducible apply rc_int
  | with_reducible apply gt_name
  | with_reducible apply et_yes
  | with_reducible apply ro_isB
  | with_reducible apply ro_isNn
  | with_reducible apply ro_isNb
  | with_reducible apply ro_isNi
  | with_reducible apply ro_isNs
  | with_reducible apply ro_isNl
  | with_reducible apply ro_isNu
  | with_reducible apply ro_isNv
  | with_reducible apply ro_notNn
  | with_reducible apply ro_notNb
  | with_reducible apply ro_notNi
  | with_reducible apply ro_notNs
  | with_reducible apply ro_notNl
  | with_reducible apply ro_notNu
  | with_reducible apply ro_notNv
  | with_reducible refine rc_isiN (b := true) (by decide +kernel) ?_
  | with_reducible refine rc_isiN (b := false) (by decide +kernel) ?_
  | with_reducible refine rc_isiB (b := true) (by decide +kernel) ?_
  | with_reducible refine rc_isiB (b := false) (by decide +kernel) ?_
  | with_reducible refine rc_isiI (b := true) (by decide +kernel) ?_
  | with_reducible refine rc_isiI (b := false) (by decide +kernel) ?_
  | with_reducible refine rc_isiS (b := true) (by decide +kernel) ?_
  | with_reducible refine rc_isiS (b := false) (by decide +kernel) ?_
  | with_reducible refine rc_isiL (b := true) (by decide +kernel) ?_
  | with_reducible refine rc_isiL (b := false) (by decide +kernel) ?_
  | with_reducible refine rc_isiU (b := true) (by decide +kernel) ?_
  | with_reducible refine rc_isiU (b := false) (by decide +kernel) ?_
  | with_reducible apply gt_setL
  | with_reducible apply gt_setD
  | with_reducible apply ev_din
  | with_reducible refine rc_lenT (by first | omega | (simp only [List.length_take, List.length_drop, List.length_append, List.length_reverse, List.length_map, List.length_cons, List.length_nil]; omega) | decide +kernel) ?_
  | with_reducible apply rc_lenL
  | with_reducible apply rc_lenU
  | with_reducible refine rs_str (by first | omega | (simp only [List.length_take, List.length_drop, List.length_append, List.length_reverse, List.length_map, List.length_cons, List.length_nil]; omega) | decide +kernel) ?_
  | with_reducible refine ro_catT (by first | omega | (simp only [List.length_take, List.length_drop, List.length_append, List.length_reverse, List.length_map, List.length_cons, List.length_nil]; omega) | decide +kernel) ?_
  | with_reducible refine gt_tup rfl ?_
  | ((with_reducible show TK.Gts _ _ _ _ _ _); (first | apply gts_cons | apply gts_nil))
  | with_reducible refine ro_mul (by first | omega | decide) ?_
  | with_reducible refine ro_div (by first | omega | decide) ?_
  | with_reducible refine ro_mod (by first | omega | decide) ?_
  | (with_reducible refine ⟨_, rfl, ?_⟩)
  | (with_reducible refine ⟨_, _, rfl, ?_⟩)
  | (refine ⟨fun hb => ?_, fun hb => ?_⟩ <;> first | exact absurd hb (by decide) | (try simp only [decide_eq_true_eq, decide_eq_false_iff_not, Bool.false_eq_true, Bool.true_eq_false, reduceCtorEq, Bool.not_eq_true', Bool.not_eq_false', eq_self, not_true_eq_false, not_false_eq_true] at hb))
  | fail "stuck"))
local macro_rules | `(tactic| walk_at "s") => `(tactic| (first
  | with_reducible apply st_seq
  | with_reducible apply st_next
  | with_reducible apply st_asg
  | with_reducible apply st_ret
  | with_reducible apply st_retN
  | with_reducible apply st_if
  | with_reducible apply st_drop
  | with_reducible apply st_asgG
  | with_reducible apply st_par
  | with_reducible apply st_brk
  | with_reducible apply st_cont
  | walk_at "e"
  | fail "stuck"))
local macro_rules | `(tactic| walk_at "w") => `(tactic| (repeat first | exact wk_nil | apply wk_yes | apply wk_no))
local macro_rules | `(tactic| walk_at "len") => `(tactic| (intro ss μ R X h; first
  | (rcases h with ⟨_, rfl, _⟩ | ⟨_, _, _, rfl, _⟩ | ⟨_, _, rfl, _⟩ <;> rfl)
  | (rcases h with ⟨_, rfl, _⟩ | ⟨_, rfl, _⟩ <;> rfl)
  | (obtain ⟨_, rfl, _⟩ := h; rfl)
  | (obtain ⟨_, _, rfl, _⟩ := h; rfl)
  | (obtain ⟨_, _, _, rfl, _⟩ := h; rfl)
  | (obtain ⟨_, _, _, _, rfl, _⟩ := h; rfl)
  | (obtain ⟨_, _, _, _, _, rfl, _⟩ := h; rfl)
  | (obtain ⟨_, _, _, _, _, _, rfl, _⟩ := h; rfl)
  | (obtain ⟨_, _, _, _, _, _, _, rfl, _⟩ := h; rfl)
  | (obtain ⟨_, _, _, _, _, _, _, _, rfl, _⟩ := h; rfl)
  | (obtain ⟨_, _, _, _, _, _, _, _, _, rfl, _⟩ := h; rfl)))
local macro_rules | `(tactic| walk_at "t2") => `(tactic| (refine ev_tupS ?_; (repeat' walk_at "s"); refine ⟨by show 2 ≤ _; decide, ?_⟩; (repeat' walk_at "s")))

section
variable {P : Program} {w : World} {K : PySem.W.Frag} {mg : Str → Option Value} {base : Heap}

theorem shapedI (l : List Nat) : SeqAt.shaped (.list (l.map fun (i : Nat) => PyData.int (0 + (i : Int)))) = true := shaped_of fun d hd => by
  obtain ⟨i, _, rfl⟩ := List.mem_map.mp hd
  exact ⟨by simp [PyData.canLay0], by simp [PyData.depth]⟩
theorem strL_iff {x y : Str} : (y.cps.toList = x.cps.toList) ↔ y = x := by
  obtain ⟨⟨a⟩⟩ := x; obtain ⟨⟨b⟩⟩ := y
  simp
open Classical in
noncomputable def selD (xs ys : List PyData) (i : Nat) : Bool := decide ¬(ys[i]? = xs[i]?)
theorem same_iff {xs ys : List PyData} (hl : ys.length = xs.length) : (((List.range xs.length).filter (selD xs ys)).map fun (i : Nat) => PyData.int (0 + (i : Int))).isEmpty = true ↔ ys = xs := by
  rw [List.isEmpty_iff, List.map_eq_nil_iff, List.filter_eq_nil_iff]
  constructor
  · intro h
    apply List.ext_getElem?
    intro i
    by_cases hi : i < xs.length
    · have := h i (List.mem_range.mpr hi)
      simpa [selD] using this
    · rw [List.getElem?_eq_none (by omega), List.getElem?_eq_none (by omega)]
  · rintro rfl i _
    simp [selD]

theorem sc__law_same : FnScope N__law_same ["told", "due"] (defScope s__law_same) := ⟨rfl, rfl, rfl, by decide +kernel, rfl, by decide +kernel, by decide +kernel⟩
theorem w__law_same (T : Hk K mg) : ∀ n : Nat, Kn P w K mg base (n + 2) "_law_same" (defArgs s__law_same) (defBody s__law_same) (defScope s__law_same) ["told", "due"] (A__law_same n) := by
  intro n
  induction n with
  | zero =>
    obtain ⟨fd, F⟩ := T.dd__law_same
    exact ⟨_, fd, T.g__law_same, F, ⟨fun vs H Q E h => by obtain ⟨_, _, _, _, _, _, h, _⟩ := h; exact (A0__law_same h).elim, fun A outer s H args us vs Q E hr he hb hv h => by obtain ⟨_, _, _, _, _, _, h, _⟩ := h; exact (A0__law_same h).elim⟩⟩
  | succ n ih =>
    have h__law_same : Fnk P w K mg base (n + 2) 2 "_law_same" [] (fun ss => A__law_same n (permL [0, 1] N0 ss)) := by
      obtain ⟨f, fd, hm, F, G⟩ := ih
      exact ⟨f, hm, callee_of F G _ [0, 1] (fun kV doc pm an cdv ct us ws hu hw => match us, ws, hu, hw with | [a0, a1], [], _, _ => rfl)⟩
    obtain ⟨fd, F⟩ := T.dd__law_same
    refine ⟨_, fd, T.g__law_same, F, fn_ok (k := n + 2) F sc__law_same (by walk_at "len") (fun cdv Ar outer s H E hr => ⟨_, (pss_cons (ps_if (PW.pt (pw_or (pt_cmpR op_isN (pv 1) pe_non (nomark _)) (pw_or1 (pt_val (pe_callB (call_isiKK (K := K)) (by rfl) T.n_isinstance (by decide +kernel) (pa_cons (pv 1) (pa_cons (pe_bltn (v := .ty "bool") (by rfl) T.n_bool (by decide +kernel) rfl) pa_nil))))))) (pss_one (ps_ret (pe_ifExp (pt_cmpR op_isN (pv 1) pe_non (nomark _)) (pe_cmpR op_isN (pv 0) pe_non (nomark _)) (pe_and (pe_callB (call_isiKK (K := K)) (by rfl) T.n_isinstance (by decide +kernel) (pa_cons (pv 0) (pa_cons (pe_bltn (v := .ty "bool") (by rfl) T.n_bool (by decide +kernel) rfl) pa_nil))) (pe_one (pe_cmpR op_eq (pe_cmpR op_is_bl (pv 0) pe_bl (nomark _)) (pe_cmpR op_is_bl (pv 1) pe_bl (nomark _)) (nomark _))))))) pss_nil)
    (pss_cons (ps_if (pt_val (pe_callB (call_isiKK (K := K)) (by rfl) T.n_isinstance (by decide +kernel) (pa_cons (pv 1) (pa_cons (pe_bltn (v := .ty "int") (by rfl) T.n_int (by decide +kernel) rfl) pa_nil)))) (pss_one (ps_ret (pe_and (pe_callB (call_isiKK (K := K)) (by rfl) T.n_isinstance (by decide +kernel) (pa_cons (pv 0) (pa_cons (pe_bltn (v := .ty "int") (by rfl) T.n_int (by decide +kernel) rfl) pa_nil))) (pe_and (pe_not (pe_callB (call_isiKK (K := K)) (by rfl) T.n_isinstance (by decide +kernel) (pa_cons (pv 0) (pa_cons (pe_bltn (v := .ty "bool") (by rfl) T.n_bool (by decide +kernel) rfl) pa_nil)))) (pe_one (pe_cmpR op_eq (pe_op op_sub (pe_callTy call_int1 (by rfl) T.n_int (by decide +kernel) (pa_cons (pv 0) pa_nil)) (pv 1)) pe_int (nomark _))))))) pss_nil)
    (pss_cons (ps_if (pt_val (pe_callB (call_isiKK (K := K)) (by rfl) T.n_isinstance (by decide +kernel) (pa_cons (pv 1) (pa_cons (pe_bltn (v := .ty "str") (by rfl) T.n_str (by decide +kernel) rfl) pa_nil)))) (pss_one (ps_ret (pe_and (pe_callB (call_isiKK (K := K)) (by rfl) T.n_isinstance (by decide +kernel) (pa_cons (pv 0) (pa_cons (pe_bltn (v := .ty "str") (by rfl) T.n_str (by decide +kernel) rfl) pa_nil))) (pe_one (pe_cmpR op_eq (pv 0) (pv 1) (nomark _)))))) pss_nil)
    (pss_cons (ps_if (pt_val (pe_callB (call_isiKK (K := K)) (by rfl) T.n_isinstance (by decide +kernel) (pa_cons (pv 1) (pa_cons (pe_bltn (v := .ty "dict") (by rfl) T.n_dict (by decide +kernel) rfl) pa_nil)))) (pss_one (ps_ret (pe_and (pe_callB (call_isiKK (K := K)) (by rfl) T.n_isinstance (by decide +kernel) (pa_cons (pv 0) (pa_cons (pe_bltn (v := .ty "dict") (by rfl) T.n_dict (by decide +kernel) rfl) pa_nil))) (pe_and (pe_cmpR op_eq (pe_callB call_lenD (by rfl) T.n_len (by decide +kernel) (pa_cons (pv 0) pa_nil)) (pe_callB call_lenD (by rfl) T.n_len (by decide +kernel) (pa_cons (pv 1) pa_nil)) (nomark _)) (pe_one (pe_cmpR (op_eqDK (K := K) hr.units) (pe_lc (own := [("key", 3)]) rfl sc__law_same.nd (pi_keys (pv 1)) (blkOk_by (own := [("key", 3)]) (N := N__law_same) (sc := defScope s__law_same) (by decide +kernel)) (fun _ _ _ _ _ => (pg_name (i := 3) sc__law_same.nd rfl (by first | exact Or.inl rfl | exact Or.inr rfl))) (fun _ _ _ _ _ => (pts_one (PW.pt (pw_or (pt_cmp (pc_dnotin (hu_of hr) (pv 3) (pv 0))) (pw_or1 (pt_not (pt_val (pe_fn (E := noE) h__law_same hr (by omega) (by rfl) (fun _ => pass_no) (pa_cons (pe_dget (hu_of hr) (pv 0) (pv 3) (fun _ _ => rfl)) (pa_cons (pe_dget (hu_of hr) (pv 1) (pv 3) (fun _ _ => rfl)) pa_nil)) pk_nil)))))))) (fun _ _ _ _ _ => (pv 3))) (pe_lst pa_nil) (nomark _))))))) pss_nil)
    (pss_cons (ps_if (PW.pt (pw_or (pt_not (pt_val (pe_callB call_isiT (by rfl) T.n_isinstance (by decide +kernel) (pa_cons (pv 0) (pa_cons (pe_tup (pa_cons (pe_bltn (v := .ty "list") (by rfl) T.n_list (by decide +kernel) rfl) (pa_cons (pe_bltn (v := .ty "tuple") (by rfl) T.n_tuple (by decide +kernel) rfl) pa_nil))) pa_nil))))) (pw_or (pt_cmpR op_ne (pe_callB (call_isiKK (K := K)) (by rfl) T.n_isinstance (by decide +kernel) (pa_cons (pv 0) (pa_cons (pe_bltn (v := .ty "list") (by rfl) T.n_list (by decide +kernel) rfl) pa_nil))) (pe_callB (call_isiKK (K := K)) (by rfl) T.n_isinstance (by decide +kernel) (pa_cons (pv 1) (pa_cons (pe_bltn (v := .ty "list") (by rfl) T.n_list (by decide +kernel) rfl) pa_nil))) (nomark _)) (pw_or1 (pt_cmpR op_ne (pe_callB (call_lenK (K := K)) (by rfl) T.n_len (by decide +kernel) (pa_cons (pv 0) pa_nil)) (pe_callB (call_lenK (K := K)) (by rfl) T.n_len (by decide +kernel) (pa_cons (pv 1) pa_nil)) (nomark _)))))) (pss_one (ps_ret pe_bl)) pss_nil)
    (pss_one (ps_ret (pe_cmpR (op_eqDK (K := K) hr.units) (pe_lc (own := [("k", 2)]) rfl sc__law_same.nd (pi_range1 (by rfl) T.n_range (pa_cons (pe_callB (call_lenK (K := K)) (by rfl) T.n_len (by decide +kernel) (pa_cons (pv 1) pa_nil)) pa_nil)) (blkOk_by (own := [("k", 2)]) (N := N__law_same) (sc := defScope s__law_same) (by decide +kernel)) (fun _ _ _ _ _ => (pg_name (i := 2) sc__law_same.nd rfl (by first | exact Or.inl rfl | exact Or.inr rfl))) (fun _ _ _ _ _ => (pts_one (pt_not (pt_val (pe_fn (E := noE) h__law_same hr (by omega) (by rfl) (fun _ => pass_no) (pa_cons (pe_ix (ix_seqK (K := K)) (pv 0) (pv 2) (fun _ _ => rfl)) (pa_cons (pe_ix (ix_seqK (K := K)) (pv 1) (pv 2) (fun _ _ => rfl)) pa_nil)) pk_nil))))) (fun _ _ _ _ _ => (pv 2))) (pe_lst pa_nil) (nomark _))))))))), ?_⟩)⟩
    intro P0 μ μf ss R X hA hX
    obtain ⟨told, due, rfl, hd, hR⟩ := hA
    cases due with
    | dict kv => exact st_dict (i := 1) rfl
    | none =>
      repeat' walk_at "s"
      refine ro_isN (b := isN told) (by cases told <;> rfl) (hR _ (by cases told <;> simp [isN]))
    | bool x =>
      cases told with
      | dict kv => exact st_dict (i := 0) rfl
      | bool y =>
        repeat' walk_at "s"
        exact hR _ (by cases x <;> cases y <;> simp)
      | _ =>
        repeat' walk_at "s"
        exact hR _ (by simp)
    | int x =>
      cases told with
      | dict kv => exact st_dict (i := 0) rfl
      | int y =>
        repeat' walk_at "s"
        exact hR _ (by rw [decide_eq_true_eq, PyData.int.injEq]; omega)
      | _ =>
        repeat' walk_at "s"
        exact hR _ (by simp)
    | str x =>
      cases told with
      | dict kv => exact st_dict (i := 0) rfl
      | str y =>
        repeat' walk_at "s"
        exact hR _ (by rw [decide_eq_true_eq, PyData.str.injEq]; exact strL_iff)
      | _ =>
        repeat' walk_at "s"
        exact hR _ (by simp)
    | list xs =>
      obtain ⟨hz, hf⟩ : xs.length ≤ 1000 ∧ ∀ x, x ∈ xs → Fit n x := hd
      cases told with
      | dict kv => exact st_dict (i := 0) rfl
      | list ys =>
        repeat' walk_at "s"
        walk_at "t2"
        refine rc_isi2 (n := "list") rfl (b1 := true) (b2 := false) (by decide +kernel) (by decide +kernel) ?_
        repeat' walk_at "s"
        · exact hR _ ⟨fun z => by simp at z, fun z => by injection z with z; rw [z] at hb; simp at hb⟩
        · have hl : ys.length = xs.length := by omega
          refine ev_lcSel (α := Nat) (ei_rng1 ?_)
          repeat' walk_at "s"
          refine ⟨by omega, by omega, List.range xs.length, fun i => I (0 + (i : Int)), selD xs ys, fun i => .int (0 + (i : Int)), by rw [Int.toNat_natCast], by rw [List.length_range]; omega, fun i hi => gc_name (by decide) ?_, ?_⟩
          · have hi1 := List.mem_range.mp hi
            have ex := List.getElem?_eq_getElem hi1
            have ey := List.getElem?_eq_getElem (l := ys) (i := i) (by omega)
            have e0 : (0 : Int) + (i : Int) = (i : Int) := by omega
            repeat' walk_at "s"
            refine ro_ixAL (d := ys[i]) (by rw [e0, atI_natE]; exact ey) ?_
            repeat' walk_at "s"
            refine ro_ixAL (d := xs[i]) (by rw [e0, atI_natE]; exact ex) ?_
            repeat' walk_at "s"
            refine ⟨rfl, rfl, ys[i], xs[i], rfl, hf _ (List.getElem_mem hi1), fun b hb2 => ?_⟩
            repeat' walk_at "s"
            refine ⟨?_, rfl, fun _ => ?_⟩
            · unfold selD
              rw [ex, ey]
              cases b with
              | true => have := hb2.mp rfl; simp [this]
              | false =>
                have : ¬ (ys[i] = xs[i]) := fun z => by have := hb2.mpr z; cases this
                simp [this]
            · repeat' walk_at "s"
              exact ⟨rfl, rfl⟩
          · repeat' walk_at "s"
            refine ev_lst (ea_nil ⟨[], rfl, by decide, ro_eqD (shapedI _) shaped_nil ?_⟩)
            rw [eqv_nilR]
            refine hR _ ?_
            have := same_iff hl
            rw [PyData.list.injEq]; exact this
      | tuple ys =>
        repeat' walk_at "s"
        walk_at "t2"
        refine rc_isi2 (n := "tuple") rfl (b1 := false) (b2 := true) (by decide +kernel) (by decide +kernel) ?_
        repeat' walk_at "s"
        exact hR _ (by simp)
      | none =>
        repeat' walk_at "s"
        walk_at "t2"
        refine rc_isi2 (n := "NoneType") rfl (b1 := false) (b2 := false) (by decide +kernel) (by decide +kernel) ?_
        repeat' walk_at "s"
        exact hR _ (by simp)
      | bool x =>
        repeat' walk_at "s"
        walk_at "t2"
        refine rc_isi2 (n := "bool") rfl (b1 := false) (b2 := false) (by decide +kernel) (by decide +kernel) ?_
        repeat' walk_at "s"
        exact hR _ (by simp)
      | int x =>
        repeat' walk_at "s"
        walk_at "t2"
        refine rc_isi2 (n := "int") rfl (b1 := false) (b2 := false) (by decide +kernel) (by decide +kernel) ?_
        repeat' walk_at "s"
        exact hR _ (by simp)
      | str x =>
        repeat' walk_at "s"
        walk_at "t2"
        refine rc_isi2 (n := "str") rfl (b1 := false) (b2 := false) (by decide +kernel) (by decide +kernel) ?_
        repeat' walk_at "s"
        exact hR _ (by simp)
    | tuple xs =>
      obtain ⟨hz, hf⟩ : xs.length ≤ 1000 ∧ ∀ x, x ∈ xs → Fit n x := hd
      cases told with
      | dict kv => exact st_dict (i := 0) rfl
      | tuple ys =>
        repeat' walk_at "s"
        walk_at "t2"
        refine rc_isi2 (n := "tuple") rfl (b1 := false) (b2 := true) (by decide +kernel) (by decide +kernel) ?_
        repeat' walk_at "s"
        · exact hR _ ⟨fun z => by simp at z, fun z => by injection z with z; rw [z] at hb; simp at hb⟩
        · have hl : ys.length = xs.length := by omega
          refine ev_lcSel (α := Nat) (ei_rng1 ?_)
          repeat' walk_at "s"
          refine ⟨by omega, by omega, List.range xs.length, fun i => I (0 + (i : Int)), selD xs ys, fun i => .int (0 + (i : Int)), by rw [Int.toNat_natCast], by rw [List.length_range]; omega, fun i hi => gc_name (by decide) ?_, ?_⟩
          · have hi1 := List.mem_range.mp hi
            have ex := List.getElem?_eq_getElem hi1
            have ey := List.getElem?_eq_getElem (l := ys) (i := i) (by omega)
            have e0 : (0 : Int) + (i : Int) = (i : Int) := by omega
            repeat' walk_at "s"
            refine ro_ixAT (d := ys[i]) (by rw [e0, atI_natE]; exact ey) ?_
            repeat' walk_at "s"
            refine ro_ixAT (d := xs[i]) (by rw [e0, atI_natE]; exact ex) ?_
            repeat' walk_at "s"
            refine ⟨rfl, rfl, ys[i], xs[i], rfl, hf _ (List.getElem_mem hi1), fun b hb2 => ?_⟩
            repeat' walk_at "s"
            refine ⟨?_, rfl, fun _ => ?_⟩
            · unfold selD
              rw [ex, ey]
              cases b with
              | true => have := hb2.mp rfl; simp [this]
              | false =>
                have : ¬ (ys[i] = xs[i]) := fun z => by have := hb2.mpr z; cases this
                simp [this]
            · repeat' walk_at "s"
              exact ⟨rfl, rfl⟩
          · repeat' walk_at "s"
            refine ev_lst (ea_nil ⟨[], rfl, by decide, ro_eqD (shapedI _) shaped_nil ?_⟩)
            rw [eqv_nilR]
            refine hR _ ?_
            have := same_iff hl
            rw [PyData.tuple.injEq]; exact this
      | list ys =>
        repeat' walk_at "s"
        walk_at "t2"
        refine rc_isi2 (n := "list") rfl (b1 := true) (b2 := false) (by decide +kernel) (by decide +kernel) ?_
        repeat' walk_at "s"
        exact hR _ (by simp)
      | none =>
        repeat' walk_at "s"
        walk_at "t2"
        refine rc_isi2 (n := "NoneType") rfl (b1 := false) (b2 := false) (by decide +kernel) (by decide +kernel) ?_
        repeat' walk_at "s"
        exact hR _ (by simp)
      | bool x =>
        repeat' walk_at "s"
        walk_at "t2"
        refine rc_isi2 (n := "bool") rfl (b1 := false) (b2 := false) (by decide +kernel) (by decide +kernel) ?_
        repeat' walk_at "s"
        exact hR _ (by simp)
      | int x =>
        repeat' walk_at "s"
        walk_at "t2"
        refine rc_isi2 (n := "int") rfl (b1 := false) (b2 := false) (by decide +kernel) (by decide +kernel) ?_
        repeat' walk_at "s"
        exact hR _ (by simp)
      | str x =>
        repeat' walk_at "s"
        walk_at "t2"
        refine rc_isi2 (n := "str") rfl (b1 := false) (b2 := false) (by decide +kernel) (by decide +kernel) ?_
        repeat' walk_at "s"
        exact hR _ (by simp)
theorem k__law_same (T : Hk K mg) : Fnk P w K mg base 8 2 "_law_same" [] (fun ss => A__law_same 6 (permL [0, 1] N0 ss)) := by
  obtain ⟨f, fd, hm, F, G⟩ := w__law_same (P := P) (w := w) (base := base) T 6
  exact ⟨f, hm, callee_of F G _ [0, 1] (fun kV doc pm an cdv ct us ws hu hw => match us, ws, hu, hw with | [a0, a1], [], _, _ => rfl)⟩

end
end K

namespace K
open PySem PySem.Spec PyProof.Rows L2 TK

local macro_rules | `(tactic| walk_at "v") => `(tactic| ((with_reducible refine ev_var (s := ?sv) ?hv ?kv); (case hv => exact rfl)))
set_option hygiene false
local macro_rules | `(tactic| walk_at "e") => `(tactic| (first
  | walk_at "v"
  | with_reducible apply ev_ci
  | with_reducible apply ev_cb
  | with_reducible apply ev_cn
  | with_reducible apply ev_cs
  | with_reducible apply ev_cv
  | with_reducible apply ev_op
  | with_reducible apply ev_un
  | with_reducible apply ev_CB
  | with_reducible apply ev_bm0
  | with_reducible apply ev_bm
  | with_reducible apply ev_m0
  | with_reducible apply ev_m1
  | with_reducible apply ev_sl
  | with_reducible apply ev_notV
  | with_reducible apply ev_andV
  | with_reducible apply ev_orV
  | with_reducible apply ev_if
  | with_reducible apply ev_revS
  | with_reducible apply ev_call
  | with_reducible refine ev_callE X (fun σ C fs μ' d H' x c => hX _ _ _ _ _ x (up_raise c)) ?_
  | with_reducible apply et_test
  | with_reducible apply et_B
  | with_reducible apply et_not
  | with_reducible apply et_and
  | with_reducible apply et_or
  | with_reducible apply ea_nil
  | with_reducible apply ea_cons
  | with_reducible apply eo_none
  | with_reducible apply eo_some
  | with_reducible apply ro_eqI
  | with_reducible apply ro_neI
  | with_reducible apply ro_eqT
  | with_reducible apply ro_neT
  | with_reducible apply ro_eqB
  | with_reducible apply ro_eqS
  | with_reducible apply ro_neS
  | with_reducible apply ro_neB
  | with_reducible apply ro_I
  | with_reducible apply ro_IB
  | with_reducible apply ru_I
  | with_reducible apply rc_abs
  | with_reducible apply rc_int
  | with_reducible apply gt_name
  | with_reducible apply et_yes
  | with_reducible apply ro_isB
  | with_reducible apply ro_isNn
  | with_reducible apply ro_isNb
  | with_reducible apply ro_isNi
  | with_reducible apply ro_isNs
  | with_reducible apply ro_isNl
  | with_reducible apply ro_isNu
  | with_reducible apply ro_isNv
  | with_reducible apply ro_notNn
  | with_reducible apply ro_notNb
  | with_reducible apply ro_notNi
  | with_reducible apply ro_notNs
  | with_reducible apply ro_notNl
  | with_reducible apply ro_notNu
  | with_reducible apply ro_notNv
  | with_reducible refine rc_isiN (b := true) (by decide +kernel) ?_
  | with_reducible refine rc_isiN (b := false) (by decide +kernel) ?_
  | with_reducible refine rc_isiB (b := true) (by decide +kernel) ?_
  | with_reducible refine rc_isiB (b := false) (by decide +kernel) ?_
  | with_reducible refine rc_isiI (b := true) (by decide +kernel) ?_
  | with_reducible refine rc_isiI (b := false) (by decide +kernel) ?_
  | with_reducible refine rc_isiS (b := true) (by decide +kernel) ?_
  | with_reducible refine rc_isiS (b := false) (by decide +kernel) ?_
  | with_reducible refine rc_isiL (b := true) (by decide +kernel) ?_
  | with_reducible refine rc_isiL (b := false) (by decide +kernel) ?_
  | with_reducible refine rc_isiU (b := true) (by decide +kernel) ?_
  | with_reducible refine rc_isiU (b := false) (by decide +kernel) ?_
  | with_reducible apply gt_setL
  | with_reducible apply gt_setD
  | with_reducible apply ev_din
  | with_reducible refine rc_lenT (by first | omega | (simp only [List.length_take, List.length_drop, List.length_append, List.length_reverse, List.length_map, List.length_cons, List.length_nil]; omega) | decide +kernel) ?_
  | with_reducible apply rc_lenL
  | with_reducible apply rc_lenU
  | with_reducible refine rs_str (by first | omega | (simp only [List.length_take, List.length_drop, List.length_append, List.length_reverse, List.length_map, List.length_cons, List.length_nil]; omega) | decide +kernel) ?_
  | with_reducible refine ro_catT (by first | omega | (simp only [List.length_take, List.length_drop, List.length_append, List.length_reverse, List.length_map, List.length_cons, List.length_nil]; omega) | decide +kernel) ?_
  | with_reducible refine gt_tup rfl ?_
  | ((with_reducible show TK.Gts _ _ _ _ _ _); (first | apply gts_cons | apply gts_nil))
  | with_reducible refine ro_mul (by first | omega | decide) ?_
  | with_reducible refine ro_div (by first | omega | decide) ?_
  | with_reducible refine ro_mod (by first | omega | decide) ?_
  | (with_reducible refine ⟨_, rfl, ?_⟩)
  | (with_reducible refine ⟨_, _, rfl, ?_⟩)
  | (refine ⟨fun hb => ?_, fun hb => ?_⟩ <;> first | exact absurd hb (by decide) | (try simp only [decide_eq_true_eq, decide_eq_false_iff_not, Bool.false_eq_true, Bool.true_eq_false, reduceCtorEq, Bool.not_eq_true', Bool.not_eq_false', eq_self, not_true_eq_false, not_false_eq_true] at hb))
  | fail "stuck"))
local macro_rules | `(tactic| walk_at "s") => `(tactic| (first
  | with_reducible apply st_seq
  | with_reducible apply st_next
  | with_reducible apply st_asg
  | with_reducible apply st_ret
  | with_reducible apply st_retN
  | with_reducible apply st_if
  | with_reducible apply st_drop
  | with_reducible apply st_asgG
  | with_reducible apply st_par
  | with_reducible apply st_brk
  | with_reducible apply st_cont
  | walk_at "e"
  | fail "stuck"))
local macro_rules | `(tactic| walk_at "w") => `(tactic| (repeat first | exact wk_nil | apply wk_yes | apply wk_no))
local macro_rules | `(tactic| walk_at "len") => `(tactic| (intro ss μ R X h; first
  | (rcases h with ⟨_, rfl, _⟩ | ⟨_, _, _, rfl, _⟩ | ⟨_, _, rfl, _⟩ <;> rfl)
  | (rcases h with ⟨_, rfl, _⟩ | ⟨_, rfl, _⟩ <;> rfl)
  | (obtain ⟨_, rfl, _⟩ := h; rfl)
  | (obtain ⟨_, _, rfl, _⟩ := h; rfl)
  | (obtain ⟨_, _, _, rfl, _⟩ := h; rfl)
  | (obtain ⟨_, _, _, _, rfl, _⟩ := h; rfl)
  | (obtain ⟨_, _, _, _, _, rfl, _⟩ := h; rfl)
  | (obtain ⟨_, _, _, _, _, _, rfl, _⟩ := h; rfl)
  | (obtain ⟨_, _, _, _, _, _, _, rfl, _⟩ := h; rfl)
  | (obtain ⟨_, _, _, _, _, _, _, _, rfl, _⟩ := h; rfl)
  | (obtain ⟨_, _, _, _, _, _, _, _, _, rfl, _⟩ := h; rfl)))
local macro_rules | `(tactic| walk_at "t2") => `(tactic| (refine ev_tupS ?_; (repeat' walk_at "s"); refine ⟨by show 2 ≤ _; decide, ?_⟩; (repeat' walk_at "s")))

section
variable {P : Program} {w : World} {K : PySem.W.Frag} {mg : Str → Option Value} {base : Heap}

theorem fit_ab {x : PyData} {n : Nat} (hx : x ∈ [PyData.str (Str.ofString "a"), PyData.str (Str.ofString "b")]) : Fit (n + 1) x := by
  simp only [List.mem_cons, List.not_mem_nil, or_false] at hx
  rcases hx with rfl | rfl <;> exact True.intro
theorem turn_sign {c : Nat} (h : okc c = true) : ∃ j : Nat, fstAt (cs "abcABC") [c] = some j ∧ atI (cs "ABCabc") (j : Int) = some (sw c) := by
  have h1 := of_decide_eq_true h
  simp only [List.mem_cons, List.not_mem_nil, or_false] at h1
  rcases h1 with rfl | rfl | rfl | rfl | rfl | rfl
  · exact ⟨0, by decide +kernel⟩
  · exact ⟨1, by decide +kernel⟩
  · exact ⟨2, by decide +kernel⟩
  · exact ⟨3, by decide +kernel⟩
  · exact ⟨4, by decide +kernel⟩
  · exact ⟨5, by decide +kernel⟩
theorem sum_onesg (g : Nat → Nat) (l : List Nat) : ((l.map fun c => [g c]).map List.length).sum = l.length := by
  induction l with
  | nil => rfl
  | cons c r ih =>
    simp only [List.map_cons, List.sum_cons, List.length_cons, List.length_nil]
    omega
theorem flat_onesg (g : Nat → Nat) (l : List Nat) : (l.map fun c => [g c]).flatten = l.map g := by
  induction l with
  | nil => rfl
  | cons c r ih => rw [List.map_cons, List.flatten_cons, ih]; rfl
theorem len_abc : (cs "abcABC").length ≤ 16777216 := by decide +kernel
theorem len_ABC : (cs "ABCabc").length ≤ 16777216 := by decide +kernel

theorem sc__law_turn : FnScope N__law_turn ["signs"] (defScope s__law_turn) := ⟨rfl, rfl, rfl, by decide +kernel, rfl, by decide +kernel, by decide +kernel⟩
theorem w__law_turn (T : Hk K mg) : Kn P w K mg base 3 "_law_turn" (defArgs s__law_turn) (defBody s__law_turn) (defScope s__law_turn) ["signs"] (A__law_turn) := by
  obtain ⟨fd, F⟩ := T.dd__law_turn
  refine ⟨_, fd, T.g__law_turn, F, fn_ok F sc__law_turn (by walk_at "len") (fun cdv Ar outer s H E hr => ⟨_, (pss_one (ps_ret (pe_join pe_str (pe_lc (own := [("sign", 1)]) rfl sc__law_turn.nd (pi_str (pv 0)) (blkOk_by (own := [("sign", 1)]) (N := N__law_turn) (sc := defScope s__law_turn) (by decide +kernel)) (fun _ _ _ _ _ => (pg_name (i := 1) sc__law_turn.nd rfl (by first | exact Or.inl rfl | exact Or.inr rfl))) (fun _ _ _ _ _ => pts_nil) (fun _ _ _ _ _ => (pe_ix ix_str pe_str (pe_m1 PySem.F.slot_str_index PySem.F.type_str_index mt_sindex pe_str (pv 1)) (fun _ _ => rfl))))))), ?_⟩)⟩
  intro P0 μ μf ss R X hA hX
  obtain ⟨l, rfl, hl, hz, hR⟩ := hA
  repeat' walk_at "s"
  refine ev_lcMap (α := Nat) (ei_str (ev_var rfl ⟨l, rfl, l, fun c => tx [c], fun c => .str (TK.Tx [sw c]), rfl, by omega, fun c hc => gc_name (by decide) ?_, ?_⟩))
  · obtain ⟨j, h1, h2⟩ := turn_sign (List.all_eq_true.mp hl c hc)
    repeat' walk_at "s"
    refine rm_index h1 ?_
    refine ro_ixS len_ABC h2 ?_
    exact ⟨rfl, rfl⟩
  · have e : (l.map fun c => PyData.str (TK.Tx [sw c])) = (l.map fun c => [sw c]).map fun l => .str (TK.Tx l) := by rw [List.map_map]; rfl
    rw [e]
    refine rm_join (by rw [sum_onesg]; omega) ?_
    rw [flat_onesg]
    exact hR

theorem k__law_turn (T : Hk K mg) : Fnk P w K mg base 3 1 "_law_turn" [] (fun ss => A__law_turn (permL [0] N0 ss)) := by
  obtain ⟨f, fd, hm, F, G⟩ := w__law_turn (P := P) (w := w) (base := base) T
  exact ⟨f, hm, callee_of F G _ [0] (fun kV doc pm an cdv ct us ws hu hw => match us, ws, hu, hw with | [a0], [], _, _ => rfl)⟩

theorem sc__law_reduce : FnScope N__law_reduce ["signed"] (defScope s__law_reduce) := ⟨rfl, rfl, rfl, by decide +kernel, rfl, by decide +kernel, by decide +kernel⟩
theorem w__law_reduce (T : Hk K mg) : Kn P w K mg base 4 "_law_reduce" (defArgs s__law_reduce) (defBody s__law_reduce) (defScope s__law_reduce) ["signed"] (A__law_reduce) := by
  obtain ⟨fd, F⟩ := T.dd__law_reduce
  have h__law_turn := k__law_turn (P := P) (w := w) (base := base) T
  refine ⟨_, fd, T.g__law_reduce, F, fn_ok F sc__law_reduce (by walk_at "len") (fun cdv Ar outer s H E hr => ⟨_, (pss_cons (ps_set (i := 1) sc__law_reduce.nd rfl (by first | exact Or.inl rfl | exact Or.inr rfl) pe_str)
    (pss_cons (ps_for (passes_of rfl) rfl (pi_str (pv 0)) (pg_name (i := 2) sc__law_reduce.nd rfl (by first | exact Or.inl rfl | exact Or.inr rfl))
    (pss_one (ps_set (i := 1) sc__law_reduce.nd rfl (by first | exact Or.inl rfl | exact Or.inr rfl) (pe_ifExp (PW.pt (pw_and (pt_cmpR op_ne (pv 1) pe_str (nomark _)) (pw_and1 (pt_cmpR op_eq (pe_ix ix_str (pv 1) (pe_un un_neg pe_int) (fun _ _ => rfl)) (pe_fn (E := noE) h__law_turn hr (by decide) (by rfl) (fun _ => pass_no) (pa_cons (pv 2) pa_nil) pk_nil) (nomark _))))) (pe_slice sl_str (pv 1) po_none (po_some (pe_un un_neg pe_int))) (pe_op op_add_str (pv 1) (pv 2))))))
    (pss_one (ps_ret (pv 1))))), ?_⟩)⟩
  intro P0 μ μf ss R X hA hX
  obtain ⟨l, rfl, hl, hz, hR⟩ := hA
  repeat' walk_at "s"
  refine st_for (ei_str (ev_var rfl ⟨l, rfl, fun i ρ μ' => Wk ρ [some (tx l), some (tx (red (l.take i))), none] ∧ μ' = μ, ⟨by walk_at "w", rfl⟩, fun i s ρ μ' hi hI => ?_, fun ρ μ' hI => ?_⟩))
  · obtain ⟨hw, rfl⟩ := hI
    rw [List.getElem?_map] at hi
    obtain ⟨c, hc, rfl⟩ := Option.map_eq_some_iff.mp hi
    have ok1 : (red (l.take i)).all okc = true := red_ok (take_ok hl i)
    have okc1 : okc c = true := List.all_eq_true.mp hl c (List.mem_of_getElem? hc)
    have len1 : (red (l.take i)).length ≤ 100000 := Nat.le_trans (red_len _) (by rw [List.length_take]; omega)
    have hp := red_take hc
    refine gt_wk hw (gt_name ?_)
    repeat' walk_at "s"
    · have hne : red (l.take i) ≠ [] := hb
      obtain ⟨d, hd⟩ : ∃ d, (red (l.take i)).getLast? = some d := ⟨_, List.getLast?_eq_some_getLast hne⟩
      refine ro_ixS (ch := d) (by omega) (by rw [atI_m1]; exact hd) ?_
      repeat' walk_at "s"
      refine ⟨rfl, rfl, [c], rfl, by simpa using okc1, by show 1 ≤ _; decide, ?_⟩
      repeat' walk_at "s"
      · refine ⟨?_, rfl⟩
        rw [cut_last]
        have e : (red (l.take i)).getLast? = some (sw c) := by rw [hd]; injection hb with hb; rw [hb]
        rw [hp, push, if_pos e]
        walk_at "w"
      · refine ⟨?_, rfl⟩
        have e : ¬ (red (l.take i)).getLast? = some (sw c) := by
          rw [hd]; intro z; injection z with z; rw [z] at hb; exact hb rfl
        rw [hp, push, if_neg e]
        walk_at "w"
    · refine ⟨?_, rfl⟩
      have e : ¬ (red (l.take i)).getLast? = some (sw c) := by
        rw [show red (l.take i) = [] from by assumption]; intro z; cases z
      rw [hp, push, if_neg e]
      walk_at "w"
  · obtain ⟨hw, rfl⟩ := hI
    rw [List.length_map, List.take_length] at hw
    refine st_wk hw ?_
    repeat' walk_at "s"
    exact hR

theorem k__law_reduce (T : Hk K mg) : Fnk P w K mg base 4 1 "_law_reduce" [] (fun ss => A__law_reduce (permL [0] N0 ss)) := by
  obtain ⟨f, fd, hm, F, G⟩ := w__law_reduce (P := P) (w := w) (base := base) T
  exact ⟨f, hm, callee_of F G _ [0] (fun kV doc pm an cdv ct us ws hu hw => match us, ws, hu, hw with | [a0], [], _, _ => rfl)⟩

theorem sc__law_undo : FnScope N__law_undo ["signed"] (defScope s__law_undo) := ⟨rfl, rfl, rfl, by decide +kernel, rfl, by decide +kernel, by decide +kernel⟩
theorem w__law_undo (T : Hk K mg) : Kn P w K mg base 4 "_law_undo" (defArgs s__law_undo) (defBody s__law_undo) (defScope s__law_undo) ["signed"] (A__law_undo) := by
  obtain ⟨fd, F⟩ := T.dd__law_undo
  have h__law_turn := k__law_turn (P := P) (w := w) (base := base) T
  refine ⟨_, fd, T.g__law_undo, F, fn_ok F sc__law_undo (by walk_at "len") (fun cdv Ar outer s H E hr => ⟨_, (pss_one (ps_ret (pe_fn (E := noE) h__law_turn hr (by decide) (by rfl) (fun _ => pass_no) (pa_cons (pe_revS (pv 0)) pa_nil) pk_nil))), ?_⟩)⟩
  intro P0 μ μf ss R X hA hX
  obtain ⟨l, rfl, hl, hz, hR⟩ := hA
  repeat' walk_at "s"
  refine ⟨by omega, ?_⟩
  repeat' walk_at "s"
  exact ⟨rfl, rfl, l.reverse, rfl, by rw [List.all_reverse]; exact hl, by rw [List.length_reverse]; exact hz, hR⟩

theorem k__law_undo (T : Hk K mg) : Fnk P w K mg base 4 1 "_law_undo" [] (fun ss => A__law_undo (permL [0] N0 ss)) := by
  obtain ⟨f, fd, hm, F, G⟩ := w__law_undo (P := P) (w := w) (base := base) T
  exact ⟨f, hm, callee_of F G _ [0] (fun kV doc pm an cdv ct us ws hu hw => match us, ws, hu, hw with | [a0], [], _, _ => rfl)⟩

theorem sc__law_core : FnScope N__law_core ["word"] (defScope s__law_core) := ⟨rfl, rfl, rfl, by decide +kernel, rfl, by decide +kernel, by decide +kernel⟩
theorem w__law_core (T : Hk K mg) : Kn P w K mg base 4 "_law_core" (defArgs s__law_core) (defBody s__law_core) (defScope s__law_core) ["word"] (A__law_core) := by
  obtain ⟨fd, F⟩ := T.dd__law_core
  have h__law_turn := k__law_turn (P := P) (w := w) (base := base) T
  refine ⟨_, fd, T.g__law_core, F, fn_ok F sc__law_core (by walk_at "len") (fun cdv Ar outer s H E hr => ⟨_, (pss_cons (ps_set (i := 1) sc__law_core.nd rfl (by first | exact Or.inl rfl | exact Or.inr rfl) pe_int)
    (pss_cons (ps_for (passes_of rfl) rfl (pi_range1 (by rfl) T.n_range (pa_cons (pe_op op_fdiv (pe_callB (call_lenK (K := K)) (by rfl) T.n_len (by decide +kernel) (pa_cons (pv 0) pa_nil)) pe_int) pa_nil)) (pg_name (i := 2) sc__law_core.nd rfl (by first | exact Or.inl rfl | exact Or.inr rfl))
    (pss_one (ps_if (PW.pt (pw_and (pt_cmpR op_lt (pe_op op_add (pe_op op_mul pe_int (pv 1)) pe_int) (pe_callB (call_lenK (K := K)) (by rfl) T.n_len (by decide +kernel) (pa_cons (pv 0) pa_nil)) (nomark _)) (pw_and1 (pt_cmpR op_eq (pe_ix ix_str (pv 0) (pv 1) (fun _ _ => rfl)) (pe_fn (E := noE) h__law_turn hr (by decide) (by rfl) (fun _ => pass_no) (pa_cons (pe_ix ix_str (pv 0) (pe_op op_sub (pe_op op_sub (pe_callB (call_lenK (K := K)) (by rfl) T.n_len (by decide +kernel) (pa_cons (pv 0) pa_nil)) pe_int) (pv 1)) (fun _ _ => rfl)) pa_nil) pk_nil) (nomark _))))) (pss_one (ps_set (i := 1) sc__law_core.nd rfl (by first | exact Or.inl rfl | exact Or.inr rfl) (pe_op op_add (pv 1) pe_int))) (pss_one ps_break))))
    (pss_one (ps_ret (pe_tup (pa_cons (pe_slice sl_str (pv 0) po_none (po_some (pv 1))) (pa_cons (pe_slice sl_str (pv 0) (po_some (pv 1)) (po_some (pe_op op_sub (pe_callB (call_lenK (K := K)) (by rfl) T.n_len (by decide +kernel) (pa_cons (pv 0) pa_nil)) (pv 1)))) pa_nil))))))), ?_⟩)⟩
  intro P0 μ μf ss R X hA hX
  obtain ⟨w, rfl, hl, hz, hR⟩ := hA
  have hc := cn_le w
  repeat' walk_at "s"
  refine st_N (fun ρ μ' => Wk ρ [some (tx w), some (I (cn w : Int)), none] ∧ μ' = μ) (st_for (ei_rng1 ?_)) ?_
  · repeat' walk_at "s"
    refine ⟨by omega, by omega, fun i ρ μ' => Wk ρ [some (tx w), some (I (i : Int)), none] ∧ μ' = μ ∧ i ≤ cn w, ⟨by walk_at "w", rfl, Nat.zero_le _⟩, fun i s ρ μ' hi hI => ?_, fun ρ μ' hI => ?_⟩
    · obtain ⟨hw, rfl, hic⟩ := hI
      have hs := cn_step hic
      have hlt : i < w.length / 2 := by
        have := (List.getElem?_eq_some_iff.mp hi).1
        rw [List.length_map, List.length_range] at this; omega
      refine gt_wk hw (gt_name ?_)
      refine st_if (et_det (b0 := decide (i < cn w)) ?_ ⟨fun hb => ?_, fun hb => ?_⟩)
      · repeat' walk_at "s"
        · have h1 : i < w.length := by omega
          have h2 : w.length - 1 - i < w.length := by omega
          refine ro_ixS (ch := w[i]) (by omega) (by rw [atI_natE, List.getElem?_eq_getElem h1]) ?_
          repeat' walk_at "s"
          refine ro_ixS (ch := w[w.length - 1 - i]) (by omega) (by rw [show (w.length : Int) - 1 - (i : Int) = ((w.length - 1 - i : Nat) : Int) by omega, atI_natE, List.getElem?_eq_getElem h2]) ?_
          have ok2 : okc w[w.length - 1 - i] = true := List.all_eq_true.mp hl _ (List.getElem_mem h2)
          repeat' walk_at "s"
          refine ⟨rfl, rfl, [w[w.length - 1 - i]], rfl, by simpa using ok2, by show 1 ≤ _; decide, ?_⟩
          repeat' walk_at "s"
          refine ⟨decide_eq_decide.mpr ?_, rfl⟩
          rw [hs, List.getElem?_eq_getElem h1, List.getElem?_eq_getElem h2]
          constructor
          · intro e; exact ⟨by omega, by injection e with e; rw [e]; rfl⟩
          · rintro ⟨_, e⟩; injection e with e; rw [e]; rfl
        · refine ⟨?_, rfl⟩
          rw [eq_comm, decide_eq_false_iff_not, hs]
          rintro ⟨h1, _⟩; omega
      · have hb := of_decide_eq_true hb
        repeat' walk_at "s"
        exact ⟨by walk_at "w", rfl, hb⟩
      · have hb := of_decide_eq_false hb
        have e : i = cn w := by omega
        subst e
        repeat' walk_at "s"
        exact ⟨by walk_at "w", rfl⟩
    · obtain ⟨hw, rfl, hic⟩ := hI
      rw [List.length_map, List.length_range] at hw hic
      have e : ((w.length : Int) / 2).toNat = cn w := by omega
      rw [e] at hw
      exact ⟨hw, rfl⟩
  · rintro ρ μ' ⟨hw, rfl⟩
    refine st_wk hw ?_
    repeat' walk_at "s"
    refine ev_tup ?_
    repeat' walk_at "s"
    refine ⟨[.str (TK.Tx (outerOf w)), .str (TK.Tx (coreOf w))], ?_, by show 2 ≤ _; decide, hR⟩
    rw [cut_b (by omega), show (w.length : Int) - (cn w : Int) = ((w.length - cn w : Nat) : Int) by omega, cut_ab (by omega) (by omega), show w.length - cn w - cn w = w.length - 2 * cn w by omega]
    rfl

theorem k__law_core (T : Hk K mg) : Fnk P w K mg base 4 1 "_law_core" [] (fun ss => A__law_core (permL [0] N0 ss)) := by
  obtain ⟨f, fd, hm, F, G⟩ := w__law_core (P := P) (w := w) (base := base) T
  exact ⟨f, hm, callee_of F G _ [0] (fun kV doc pm an cdv ct us ws hu hw => match us, ws, hu, hw with | [a0], [], _, _ => rfl)⟩

theorem sc__law_root : FnScope N__law_root ["word"] (defScope s__law_root) := ⟨rfl, rfl, rfl, by decide +kernel, rfl, by decide +kernel, by decide +kernel⟩
theorem w__law_root (T : Hk K mg) : Kn P w K mg base 5 "_law_root" (defArgs s__law_root) (defBody s__law_root) (defScope s__law_root) ["word"] (A__law_root) := by
  obtain ⟨fd, F⟩ := T.dd__law_root
  have h__law_core := k__law_core (P := P) (w := w) (base := base) T
  have h__law_reduce := k__law_reduce (P := P) (w := w) (base := base) T
  have h__law_undo := k__law_undo (P := P) (w := w) (base := base) T
  refine ⟨_, fd, T.g__law_root, F, fn_ok F sc__law_root (by walk_at "len") (fun cdv Ar outer s H E hr => ⟨_, (pss_cons (ps_asg (pe_fn (E := noE) h__law_core hr (by decide) (by rfl) (fun _ => pass_no) (pa_cons (pv 0) pa_nil) pk_nil) (pg_tup rfl (pgs_cons (pg_name (i := 2) sc__law_root.nd rfl (by first | exact Or.inl rfl | exact Or.inr rfl)) (pgs_cons (pg_name (i := 3) sc__law_root.nd rfl (by first | exact Or.inl rfl | exact Or.inr rfl)) pgs_nil))))
    (pss_cons (ps_set (i := 1) sc__law_root.nd rfl (by first | exact Or.inl rfl | exact Or.inr rfl) (pe_callB (cr_min rfl) (by rfl) T.n_min (by decide +kernel) (pa_cons (pe_lc (own := [("some", 4)]) rfl sc__law_root.nd (pi_range2 (by rfl) T.n_range (pa_cons pe_int (pa_cons (pe_op op_add (pe_callB (call_lenK (K := K)) (by rfl) T.n_len (by decide +kernel) (pa_cons (pv 3) pa_nil)) pe_int) pa_nil))) (blkOk_by (own := [("some", 4)]) (N := N__law_root) (sc := defScope s__law_root) (by decide +kernel)) (fun _ _ _ _ _ => (pg_name (i := 4) sc__law_root.nd rfl (by first | exact Or.inl rfl | exact Or.inr rfl))) (fun _ _ _ _ _ => (pts_one (PW.pt (pw_and (pt_cmpR op_eq (pe_op op_mod (pe_callTy call_int1 (by rfl) T.n_int (by decide +kernel) (pa_cons (pe_callB (call_lenK (K := K)) (by rfl) T.n_len (by decide +kernel) (pa_cons (pv 3) pa_nil)) pa_nil)) (pv 4)) pe_int (nomark _)) (pw_and1 (pt_cmpR op_eq (pe_op op_repS (pe_slice sl_str (pv 3) po_none (po_some (pv 4))) (pe_op op_fdiv (pe_callB (call_lenK (K := K)) (by rfl) T.n_len (by decide +kernel) (pa_cons (pv 3) pa_nil)) (pv 4))) (pv 3) (nomark _))))))) (fun _ _ _ _ _ => (pv 4))) pa_nil)))
    (pss_one (ps_ret (pe_tup (pa_cons (pe_fn (E := noE) h__law_reduce hr (by decide) (by rfl) (fun _ => pass_no) (pa_cons (pe_op op_add_str (pe_op op_add_str (pv 2) (pe_slice sl_str (pv 3) po_none (po_some (pv 1)))) (pe_fn (E := noE) h__law_undo hr (by decide) (by rfl) (fun _ => pass_no) (pa_cons (pv 2) pa_nil) pk_nil)) pa_nil) pk_nil) (pa_cons (pe_op op_fdiv (pe_callB (call_lenK (K := K)) (by rfl) T.n_len (by decide +kernel) (pa_cons (pv 3) pa_nil)) (pv 1)) pa_nil))))))), ?_⟩)⟩
  intro P0 μ μf ss R X hA hX
  obtain ⟨w, rfl, hl, hz, hne, hR⟩ := hA
  have h1 := core_len w
  have h2 := outer_len w
  repeat' walk_at "s"
  refine ⟨rfl, rfl, w, rfl, hl, by omega, ?_⟩
  repeat' walk_at "s"
  refine ev_lcSel (α := Nat) (ei_rng2 ?_)
  repeat' walk_at "s"
  refine ⟨by omega, List.range (coreOf w).length, fun i => I (1 + (i : Int)), fun i => isR (coreOf w) (i + 1), fun i => .int (1 + (i : Int)), by rw [show (((coreOf w).length : Int) + 1 - 1).toNat = (coreOf w).length by omega], by rw [List.length_range]; omega, fun i hi => gc_name (by decide) ?_, ?_⟩
  · have hi1 := List.mem_range.mp hi
    have e1 : (((coreOf w).length : Int) % (1 + (i : Int)) = 0) ↔ (coreOf w).length % (i + 1) = 0 := by
      rw [show (1 + (i : Int)) = ((i + 1 : Nat) : Int) by omega, ← Int.natCast_emod]; omega
    have hd : (coreOf w).length / (i + 1) ≤ (coreOf w).length := Nat.div_le_self _ _
    have hd0 : (0 : Int) ≤ (((coreOf w).length / (i + 1) : Nat) : Int) := Int.natCast_nonneg _
    repeat' walk_at "s"
    · rw [show (1 + (i : Int)) = ((i + 1 : Nat) : Int) by omega, cut_bmin, ← Int.natCast_ediv]
      refine ro_repS (by omega) (by omega) ?_ ?_
      · rw [Int.toNat_natCast, List.length_take]
        have := Nat.mul_le_mul (Nat.min_le_right (i + 1) (coreOf w).length) hd
        have h3 : (coreOf w).length * (coreOf w).length ≤ 60 * 60 := Nat.mul_le_mul (by omega) (by omega)
        omega
      · repeat' walk_at "s"
        refine ⟨?_, rfl, fun _ => ?_⟩
        · show _ = isR (coreOf w) (i + 1)
          unfold isR
          rw [decide_eq_true (e1.mp hb), Int.toNat_natCast]; rfl
        · repeat' walk_at "s"
          exact ⟨rfl, rfl⟩
    · refine ⟨?_, rfl, fun z => by cases z⟩
      show _ = isR (coreOf w) (i + 1)
      unfold isR
      rw [decide_eq_false (fun z => hb (e1.mpr z))]; rfl
  · repeat' walk_at "s"
    obtain ⟨r, e, g1, g2, g3⟩ := rs_head hne
    have e2 : ((List.range (coreOf w).length).filter fun i => isR (coreOf w) (i + 1)).map (fun (i : Nat) => PyData.int (1 + (i : Int))) = ((sizes (coreOf w)).map fun (i : Nat) => (1 + (i : Int))).map .int := by rw [List.map_map]; rfl
    rw [e2]
    refine rc_min (by rw [e]; simp) fun m hm1 hm2 => ?_
    have em : m = (rs (coreOf w) : Int) := by
      obtain ⟨i, hi, rfl⟩ := List.mem_map.mp hm1
      obtain ⟨hi1, hi2⟩ := List.mem_filter.mp hi
      have h3 := List.mem_range.mp hi1
      have h4 := rs_min (s := i + 1) (by omega) (by omega) hi2
      have h5 := hm2 (1 + ((rs (coreOf w) - 1 : Nat) : Int)) (List.mem_map.mpr ⟨rs (coreOf w) - 1, by rw [e]; exact List.mem_cons_self, rfl⟩)
      omega
    subst em
    repeat' walk_at "s"
    refine ev_tup ?_
    repeat' walk_at "s"
    rw [cut_bmin]
    have oo := outer_ok hl
    repeat' walk_at "s"
    refine ⟨rfl, rfl, _, rfl, oo, by omega, ?_⟩
    have h10 := iv_len (outerOf w)
    repeat' walk_at "s"
    refine ⟨rfl, rfl, _, rfl, ?_, ?_, ?_⟩
    · rw [List.all_append, List.all_append, oo, take_ok (core_ok hl), iv_ok oo]; rfl
    · simp only [List.length_append, List.length_take]; omega
    repeat' walk_at "s"
    refine ⟨[.str (TK.Tx (rootOf w)), .int (numOf w)], ?_, by show 2 ≤ _; decide, hR⟩
    rw [← Int.natCast_ediv]
    rfl

theorem k__law_root (T : Hk K mg) : Fnk P w K mg base 5 1 "_law_root" [] (fun ss => A__law_root (permL [0] N0 ss)) := by
  obtain ⟨f, fd, hm, F, G⟩ := w__law_root (P := P) (w := w) (base := base) T
  exact ⟨f, hm, callee_of F G _ [0] (fun kV doc pm an cdv ct us ws hu hw => match us, ws, hu, hw with | [a0], [], _, _ => rfl)⟩

theorem sc__law_very : FnScope N__law_very ["given", "value"] (defScope s__law_very) := ⟨rfl, rfl, rfl, by decide +kernel, rfl, by decide +kernel, by decide +kernel⟩
theorem w__law_very (T : Hk K mg) : Kn P w K mg base 9 "_law_very" (defArgs s__law_very) (defBody s__law_very) (defScope s__law_very) ["given", "value"] (A__law_very) := by
  obtain ⟨fd, F⟩ := T.dd__law_very
  have h__law_same := k__law_same (P := P) (w := w) (base := base) T
  refine ⟨_, fd, T.g__law_very, F, fn_ok F sc__law_very (by walk_at "len") (fun cdv Ar outer s H E hr => ⟨_, (pss_cons (ps_if (pt_val (pe_callB (call_isiKK (K := K)) (by rfl) T.n_isinstance (by decide +kernel) (pa_cons (pv 1) (pa_cons (pe_bltn (v := .ty "list") (by rfl) T.n_list (by decide +kernel) rfl) pa_nil)))) (pss_cons (ps_expr (pe_bmK (K := K) PySem.F.plainAttrs_list PySem.F.slot_list_append PySem.F.type_list_append mt_append (pv 1) (pa_cons pe_str pa_nil)))
    (pss_one (ps_ret (pe_and (pe_callB (call_isiKK (K := K)) (by rfl) T.n_isinstance (by decide +kernel) (pa_cons (pv 0) (pa_cons (pe_bltn (v := .ty "list") (by rfl) T.n_list (by decide +kernel) rfl) pa_nil))) (pe_and (pe_cmpR op_eq (pe_callB (call_lenK (K := K)) (by rfl) T.n_len (by decide +kernel) (pa_cons (pv 0) pa_nil)) (pe_callB (call_lenK (K := K)) (by rfl) T.n_len (by decide +kernel) (pa_cons (pv 1) pa_nil)) (nomark _)) (pe_one (pe_fn (E := noE) h__law_same hr (by decide) (by rfl) (fun _ => pass_no) (pa_cons (pe_ix (ix_listK (K := K)) (pv 0) (pe_un un_neg pe_int) (fun _ _ => rfl)) (pa_cons pe_str pa_nil)) pk_nil))))))) pss_nil)
    (pss_cons (ps_if (pt_val (pe_callB (call_isiKK (K := K)) (by rfl) T.n_isinstance (by decide +kernel) (pa_cons (pv 1) (pa_cons (pe_bltn (v := .ty "dict") (by rfl) T.n_dict (by decide +kernel) rfl) pa_nil)))) (pss_cons (ps_asg pe_int (pg_sub (pv 1) pe_str (set_dict (hu_of hr))))
    (pss_one (ps_ret (pe_and (pe_callB (call_isiKK (K := K)) (by rfl) T.n_isinstance (by decide +kernel) (pa_cons (pv 0) (pa_cons (pe_bltn (v := .ty "dict") (by rfl) T.n_dict (by decide +kernel) rfl) pa_nil))) (pe_and (pe_cmpR op_eq (pe_callB call_lenD (by rfl) T.n_len (by decide +kernel) (pa_cons (pv 0) pa_nil)) (pe_callB call_lenD (by rfl) T.n_len (by decide +kernel) (pa_cons (pv 1) pa_nil)) (nomark _)) (pe_one (pe_cmp (pc_din (hu_of hr) pe_str (pv 0))))))))) pss_nil)
    (pss_one (ps_ret (pe_fn (E := noE) h__law_same hr (by decide) (by rfl) (fun _ => pass_no) (pa_cons (pv 0) (pa_cons (pv 1) pa_nil)) pk_nil))))), ?_⟩)⟩
  intro P0 μ μf ss R X hA hX
  rcases hA with ⟨d, rfl, hd, hR⟩ | ⟨q, s, μ1, rfl, rfl, hR⟩ | ⟨q, μ1, rfl, rfl, hR⟩
  · have hf : Fit 6 d := by
      simp only [badL, List.mem_cons, List.not_mem_nil, or_false] at hd
      rcases hd with rfl | rfl | rfl | rfl | rfl | rfl | rfl | rfl | rfl | rfl
      all_goals first | exact True.intro | exact ⟨by decide, fun x hx => fit_ab hx⟩
    have hs : ∃ m, tyN d = m ∧ kitB m "list" = some false ∧ kitB m "dict" = some false := by
      simp only [badL, List.mem_cons, List.not_mem_nil, or_false] at hd
      rcases hd with rfl | rfl | rfl | rfl | rfl | rfl | rfl | rfl | rfl | rfl
      all_goals exact ⟨_, rfl, by decide +kernel, by decide +kernel⟩
    obtain ⟨m, e1, e2, e3⟩ := hs
    refine st_seq (st_if (et_det (b0 := false) ?_ ⟨fun hb => (by cases hb), fun _ => ?_⟩))
    · repeat' walk_at "s"
      exact rc_isi (n := m) e1.symm e2 ⟨_, rfl, rfl, rfl⟩
    repeat' walk_at "s"
    refine rc_isi (n := m) e1.symm e3 ?_
    repeat' walk_at "s"
    exact ⟨rfl, rfl, d, d, rfl, hf, fun b hb => by rw [hb.mpr rfl]; exact hR⟩
  · repeat' walk_at "s"
    refine rc_isi (n := "list") (.inl ⟨rfl, 0, _, rfl⟩) (b := true) (by decide +kernel) ?_
    repeat' walk_at "s"
    refine ⟨.inl ⟨rfl, 0, _, rfl⟩, ?_⟩
    repeat' walk_at "s"
    refine rm_append (n := 0) rfl (by show 1 < _; decide) ?_
    refine st_ret (ev_le ?_)
    repeat' walk_at "s"
    refine rc_isi (n := "list") (.inl ⟨rfl, 0, _, rfl⟩) (b := true) (by decide +kernel) ?_
    repeat' walk_at "s"
    refine rc_lenM (n := 0) rfl ?_
    repeat' walk_at "s"
    refine rc_lenM (n := 0) rfl ?_
    repeat' walk_at "s"
    · refine ro_ixM (n := 0) rfl (s := tx (cs "grown")) rfl ?_
      repeat' walk_at "s"
      exact ⟨rfl, rfl, _, _, rfl, True.intro, fun b hb => ⟨μ1, Sub.drop, by rw [hb.mpr rfl]; exact hR⟩⟩
  · repeat' walk_at "s"
    refine rc_isi (n := "dict") (.inr ⟨rfl, 0, _, rfl⟩) (b := false) (by decide +kernel) ?_
    repeat' walk_at "s"
    refine rc_isi (n := "dict") (.inr ⟨rfl, 0, _, rfl⟩) (b := true) (by decide +kernel) ?_
    repeat' walk_at "s"
    refine ⟨q, 0, [], .inr (Str.ofString "grown"), rfl, rfl, rfl, by decide, ?_⟩
    refine st_ret (ev_le ?_)
    repeat' walk_at "s"
    refine rc_isi (n := "dict") (.inr ⟨rfl, 0, _, rfl⟩) (b := true) (by decide +kernel) ?_
    repeat' walk_at "s"
    refine rc_lenD (n := 0) rfl ?_
    repeat' walk_at "s"
    refine rc_lenD (n := 0) rfl ?_
    repeat' walk_at "s"
    · refine ⟨q, 0, _, .inr (Str.ofString "grown"), rfl, rfl, rfl, μ1, Sub.drop, ?_⟩
      exact hR

theorem k__law_very (T : Hk K mg) : Fnk P w K mg base 9 2 "_law_very" [] (fun ss => A__law_very (permL [0, 1] N0 ss)) := by
  obtain ⟨f, fd, hm, F, G⟩ := w__law_very (P := P) (w := w) (base := base) T
  exact ⟨f, hm, callee_of F G _ [0, 1] (fun kV doc pm an cdv ct us ws hu hw => match us, ws, hu, hw with | [a0, a1], [], _, _ => rfl)⟩

theorem sc__law_bad_signed : FnScope N__law_bad_signed ["box"] (defScope s__law_bad_signed) := ⟨rfl, rfl, rfl, by decide +kernel, rfl, by decide +kernel, by decide +kernel⟩
theorem w__law_bad_signed (T : Hk K mg) : Kn P w K mg base 4 "_law_bad_signed" (defArgs s__law_bad_signed) (defBody s__law_bad_signed) (defScope s__law_bad_signed) ["box"] (A__law_bad_signed) := by
  obtain ⟨fd, F⟩ := T.dd__law_bad_signed
  have h__law_take := k__law_take (P := P) (w := w) (base := base) T
  refine ⟨_, fd, T.g__law_bad_signed, F, fn_ok F sc__law_bad_signed (by walk_at "len") (fun cdv Ar outer s H E hr => ⟨_, (pss_one (ps_ret (pe_ix (ix_listK (K := K)) (pe_lst (pa_cons pe_non (pa_cons pe_int (pa_cons pe_str (pa_cons pe_str (pa_cons (pe_lst (pa_cons pe_str pa_nil)) (pa_cons (pe_tup (pa_cons pe_str (pa_cons pe_str pa_nil))) (pa_cons (pe_op op_repS pe_str pe_int) (pa_cons pe_bl (pa_cons pe_dnewK (pa_cons pe_str (pa_cons pe_str (pa_cons (pe_un un_neg pe_int) pa_nil))))))))))))) (pe_fn (E := noE) h__law_take hr (by decide) (by rfl) (fun _ => pass_no) (pa_cons (pv 0) (pa_cons pe_int pa_nil)) pk_nil) (fun _ _ => rfl)))), ?_⟩)⟩
  intro P0 μ μf ss R X hA hX
  obtain ⟨p, k, n, μ0, rfl, hbx, hn, hR⟩ := hA
  refine st_ret (ev_le ?_)
  repeat' walk_at "s"
  refine ev_lstS ?_
  repeat' walk_at "s"
  refine ev_lstM ?_
  repeat' walk_at "s"
  refine ⟨by show 1 ≤ _; decide, fun ql => ?_⟩
  repeat' walk_at "s"
  refine ev_tup ?_
  repeat' walk_at "s"
  refine ⟨[.str (Str.ofString "a"), .str (Str.ofString "b")], rfl, by show 2 ≤ _; decide, ?_⟩
  repeat' walk_at "s"
  refine ro_repS (by decide) (by decide) (by decide +kernel) ?_
  repeat' walk_at "s"
  refine ev_dnew fun qd => ?_
  repeat' walk_at "s"
  refine ⟨by show 12 ≤ _; decide, ?_⟩
  repeat' walk_at "s"
  refine ⟨rfl, rfl, p, k + 2, n, 12, _, rfl, (hbx.cons _).cons _, by omega, by decide, by decide, fun d hd μ' hb' => ?_⟩
  obtain ⟨μ1, rfl, hb1⟩ := hb'.uncons
  obtain ⟨μ2, rfl, hb2⟩ := hb1.uncons
  obtain ⟨hA, hL, hD⟩ := hR μ2 hb2
  have e61 : (List.replicate (61 : Int).toNat (cs "a")).flatten = List.replicate 61 97 := by decide +kernel
  rw [e61]
  have hd12 : d = 0 ∨ d = 1 ∨ d = 2 ∨ d = 3 ∨ d = 4 ∨ d = 5 ∨ d = 6 ∨ d = 7 ∨ d = 8 ∨ d = 9 ∨ d = 10 ∨ d = 11 := by omega
  have two : Sub μ2 ((qd, MO.dic []) :: (ql, MO.lst [tx (cs "a")]) :: μ2) := Sub.skip Sub.drop
  rcases hd12 with rfl | rfl | rfl | rfl | rfl | rfl | rfl | rfl | rfl | rfl | rfl | rfl
  · exact ro_ixLS (s := .d .none) (by rfl) ⟨_, two, hA _ (by simp [badL])⟩
  · exact ro_ixLS (s := .d (.int 7)) (by rfl) ⟨_, two, hA _ (by simp [badL])⟩
  · exact ro_ixLS (s := .d (.str (Str.ofString "abd"))) (by rfl) ⟨_, two, hA _ (by simp [badL])⟩
  · exact ro_ixLS (s := .d (.str (Str.ofString "D"))) (by rfl) ⟨_, two, hA _ (by simp [badL])⟩
  · refine ro_ixLS (s := .v (.ref ql)) (by rfl) ⟨(ql, MO.lst [tx (cs "a")]) :: μ2, Sub.drop, ?_⟩
    have e : cs "a" = [97] := by decide +kernel
    rw [e]; exact hL ql
  · exact ro_ixLS (s := .d (.tuple [.str (Str.ofString "a"), .str (Str.ofString "b")])) (by rfl) ⟨_, two, hA _ (by simp [badL])⟩
  · exact ro_ixLS (s := .d (.str (TK.Tx (List.replicate 61 97)))) (by rfl) ⟨_, two, hA _ (by simp [badL])⟩
  · exact ro_ixLS (s := .d (.bool true)) (by rfl) ⟨_, two, hA _ (by simp [badL])⟩
  · exact ro_ixLS (s := .v (.ref qd)) (by rfl) ⟨(qd, MO.dic []) :: μ2, Sub.keep Sub.drop, hD qd⟩
  · exact ro_ixLS (s := .d (.str (Str.ofString "a b"))) (by rfl) ⟨_, two, hA _ (by simp [badL])⟩
  · exact ro_ixLS (s := .d (.str (Str.ofString "ab\n"))) (by rfl) ⟨_, two, hA _ (by simp [badL])⟩
  · exact ro_ixLS (s := .d (.int (-1))) (by rfl) ⟨_, two, hA _ (by simp [badL])⟩

theorem k__law_bad_signed (T : Hk K mg) : Fnk P w K mg base 4 1 "_law_bad_signed" [] (fun ss => A__law_bad_signed (permL [0] N0 ss)) := by
  obtain ⟨f, fd, hm, F, G⟩ := w__law_bad_signed (P := P) (w := w) (base := base) T
  exact ⟨f, hm, callee_of F G _ [0] (fun kV doc pm an cdv ct us ws hu hw => match us, ws, hu, hw with | [a0], [], _, _ => rfl)⟩

end
end K

namespace K
open PySem PySem.Spec PyProof.Rows L2 TK

local macro_rules | `(tactic| walk_at "v") => `(tactic| ((with_reducible refine ev_var (s := ?sv) ?hv ?kv); (case hv => exact rfl)))
set_option hygiene false
local macro_rules | `(tactic| walk_at "e") => `(tactic| (first
  | walk_at "v"
  | with_reducible apply ev_ci
  | with_reducible apply ev_cb
  | with_reducible apply ev_cn
  | with_reducible apply ev_cs
  | with_reducible apply ev_cv
  | with_reducible apply ev_op
  | with_reducible apply ev_un
  | with_reducible apply ev_CB
  | with_reducible apply ev_bm0
  | with_reducible apply ev_bm
  | with_reducible apply ev_m0
  | with_reducible apply ev_m1
  | with_reducible apply ev_sl
  | with_reducible apply ev_notV
  | with_reducible apply ev_andV
  | with_reducible apply ev_orV
  | with_reducible apply ev_if
  | with_reducible apply ev_revS
  | with_reducible apply ev_call
  | with_reducible refine ev_callE X (fun σ C fs μ' d H' x c => hX _ _ _ _ _ x (up_raise c)) ?_
  | with_reducible apply et_test
  | with_reducible apply et_B
  | with_reducible apply et_not
  | with_reducible apply et_and
  | with_reducible apply et_or
  | with_reducible apply ea_nil
  | with_reducible apply ea_cons
  | with_reducible apply eo_none
  | with_reducible apply eo_some
  | with_reducible apply ro_eqI
  | with_reducible apply ro_neI
  | with_reducible apply ro_eqT
  | with_reducible apply ro_neT
  | with_reducible apply ro_eqB
  | with_reducible apply ro_eqS
  | with_reducible apply ro_neS
  | with_reducible apply ro_neB
  | with_reducible apply ro_I
  | with_reducible apply ro_IB
  | with_reducible apply ru_I
  | with_reducible apply rc_abs
  | with_reducible apply rc_int
  | with_reducible apply gt_name
  | with_reducible apply et_yes
  | with_reducible apply ro_isB
  | with_reducible apply ro_isNn
  | with_reducible apply ro_isNb
  | with_reducible apply ro_isNi
  | with_reducible apply ro_isNs
  | with_reducible apply ro_isNl
  | with_reducible apply ro_isNu
  | with_reducible apply ro_isNv
  | with_reducible apply ro_notNn
  | with_reducible apply ro_notNb
  | with_reducible apply ro_notNi
  | with_reducible apply ro_notNs
  | with_reducible apply ro_notNl
  | with_reducible apply ro_notNu
  | with_reducible apply ro_notNv
  | with_reducible refine rc_isiN (b := true) (by decide +kernel) ?_
  | with_reducible refine rc_isiN (b := false) (by decide +kernel) ?_
  | with_reducible refine rc_isiB (b := true) (by decide +kernel) ?_
  | with_reducible refine rc_isiB (b := false) (by decide +kernel) ?_
  | with_reducible refine rc_isiI (b := true) (by decide +kernel) ?_
  | with_reducible refine rc_isiI (b := false) (by decide +kernel) ?_
  | with_reducible refine rc_isiS (b := true) (by decide +kernel) ?_
  | with_reducible refine rc_isiS (b := false) (by decide +kernel) ?_
  | with_reducible refine rc_isiL (b := true) (by decide +kernel) ?_
  | with_reducible refine rc_isiL (b := false) (by decide +kernel) ?_
  | with_reducible refine rc_isiU (b := true) (by decide +kernel) ?_
  | with_reducible refine rc_isiU (b := false) (by decide +kernel) ?_
  | with_reducible apply gt_setL
  | with_reducible apply gt_setD
  | with_reducible apply ev_din
  | with_reducible refine rc_lenT (by first | omega | (simp only [List.length_take, List.length_drop, List.length_append, List.length_reverse, List.length_map, List.length_cons, List.length_nil]; omega) | decide +kernel) ?_
  | with_reducible apply rc_lenL
  | with_reducible apply rc_lenU
  | with_reducible refine rs_str (by first | omega | (simp only [List.length_take, List.length_drop, List.length_append, List.length_reverse, List.length_map, List.length_cons, List.length_nil]; omega) | decide +kernel) ?_
  | with_reducible refine ro_catT (by first | omega | (simp only [List.length_take, List.length_drop, List.length_append, List.length_reverse, List.length_map, List.length_cons, List.length_nil]; omega) | decide +kernel) ?_
  | with_reducible refine gt_tup rfl ?_
  | ((with_reducible show TK.Gts _ _ _ _ _ _); (first | apply gts_cons | apply gts_nil))
  | with_reducible refine ro_mul (by first | omega | decide) ?_
  | with_reducible refine ro_div (by first | omega | decide) ?_
  | with_reducible refine ro_mod (by first | omega | decide) ?_
  | (with_reducible refine ⟨_, rfl, ?_⟩)
  | (with_reducible refine ⟨_, _, rfl, ?_⟩)
  | (refine ⟨fun hb => ?_, fun hb => ?_⟩ <;> first | exact absurd hb (by decide) | (try simp only [decide_eq_true_eq, decide_eq_false_iff_not, Bool.false_eq_true, Bool.true_eq_false, reduceCtorEq, Bool.not_eq_true', Bool.not_eq_false', eq_self, not_true_eq_false, not_false_eq_true] at hb))
  | fail "stuck"))
local macro_rules | `(tactic| walk_at "s") => `(tactic| (first
  | with_reducible apply st_seq
  | with_reducible apply st_next
  | with_reducible apply st_asg
  | with_reducible apply st_ret
  | with_reducible apply st_retN
  | with_reducible apply st_if
  | with_reducible apply st_drop
  | with_reducible apply st_asgG
  | with_reducible apply st_par
  | with_reducible apply st_brk
  | with_reducible apply st_cont
  | walk_at "e"
  | fail "stuck"))
local macro_rules | `(tactic| walk_at "w") => `(tactic| (repeat first | exact wk_nil | apply wk_yes | apply wk_no))
local macro_rules | `(tactic| walk_at "len") => `(tactic| (intro ss μ R X h; first
  | (rcases h with ⟨_, rfl, _⟩ | ⟨_, _, _, rfl, _⟩ | ⟨_, _, rfl, _⟩ <;> rfl)
  | (rcases h with ⟨_, rfl, _⟩ | ⟨_, rfl, _⟩ <;> rfl)
  | (obtain ⟨_, rfl, _⟩ := h; rfl)
  | (obtain ⟨_, _, rfl, _⟩ := h; rfl)
  | (obtain ⟨_, _, _, rfl, _⟩ := h; rfl)
  | (obtain ⟨_, _, _, _, rfl, _⟩ := h; rfl)
  | (obtain ⟨_, _, _, _, _, rfl, _⟩ := h; rfl)
  | (obtain ⟨_, _, _, _, _, _, rfl, _⟩ := h; rfl)
  | (obtain ⟨_, _, _, _, _, _, _, rfl, _⟩ := h; rfl)
  | (obtain ⟨_, _, _, _, _, _, _, _, rfl, _⟩ := h; rfl)
  | (obtain ⟨_, _, _, _, _, _, _, _, _, rfl, _⟩ := h; rfl)))
local macro_rules | `(tactic| walk_at "t2") => `(tactic| (refine ev_tupS ?_; (repeat' walk_at "s"); refine ⟨by show 2 ≤ _; decide, ?_⟩; (repeat' walk_at "s")))

section
variable {P : Program} {w : World} {K : PySem.W.Frag} {mg : Str → Option Value} {base : Heap}

theorem signs_ok {letters : Nat} (h1 : 1 ≤ letters) (h2 : letters ≤ 3) : ((cs "abc").take letters ++ (cs "ABC").take letters).length = 2 * letters ∧ ((cs "abc").take letters ++ (cs "ABC").take letters).all okc = true := by
  rcases (by omega : letters = 1 ∨ letters = 2 ∨ letters = 3) with rfl | rfl | rfl <;> decide +kernel
def canC (s : List Nat) (a : Nat) : Bool := decide (s[a]? = (s[a + 1]?).map sw)

theorem sc__law_signed : FnScope N__law_signed ["box", "letters", "most"] (defScope s__law_signed) := ⟨rfl, rfl, rfl, by decide +kernel, rfl, by decide +kernel, by decide +kernel⟩
theorem w__law_signed (T : Hk K mg) : Kn P w K mg base 4 "_law_signed" (defArgs s__law_signed) (defBody s__law_signed) (defScope s__law_signed) ["box", "letters", "most"] (A__law_signed) := by
  obtain ⟨fd, F⟩ := T.dd__law_signed
  have h__law_take := k__law_take (P := P) (w := w) (base := base) T
  have h__law_turn := k__law_turn (P := P) (w := w) (base := base) T
  refine ⟨_, fd, T.g__law_signed, F, fn_ok F sc__law_signed (by walk_at "len") (fun cdv Ar outer s H E hr => ⟨_, (pss_cons (ps_set (i := 3) sc__law_signed.nd rfl (by first | exact Or.inl rfl | exact Or.inr rfl) (pe_op op_add_str (pe_slice sl_str pe_str po_none (po_some (pv 1))) (pe_slice sl_str pe_str po_none (po_some (pv 1)))))
    (pss_cons (ps_set (i := 4) sc__law_signed.nd rfl (by first | exact Or.inl rfl | exact Or.inr rfl) (pe_join pe_str (pe_lc (own := [("k", 7)]) rfl sc__law_signed.nd (pi_range1 (by rfl) T.n_range (pa_cons (pe_fn (E := noE) h__law_take hr (by decide) (by rfl) (fun _ => pass_no) (pa_cons (pv 0) (pa_cons (pe_op op_add (pv 2) pe_int) pa_nil)) pk_nil) pa_nil)) (blkOk_by (own := [("k", 7)]) (N := N__law_signed) (sc := defScope s__law_signed) (by decide +kernel)) (fun _ _ _ _ _ => (pg_name (i := 7) sc__law_signed.nd rfl (by first | exact Or.inl rfl | exact Or.inr rfl))) (fun _ _ _ _ _ => pts_nil) (fun _ _ _ _ _ => (pe_ix ix_str (pv 3) (pe_fn (E := noE) h__law_take hr (by decide) (by rfl) (fun _ => pass_no) (pa_cons (pv 0) (pa_cons (pe_op op_mul pe_int (pv 1)) pa_nil)) pk_nil) (fun _ _ => rfl))))))
    (pss_cons (ps_if (pt_cmpR op_eq (pe_fn (E := noE) h__law_take hr (by decide) (by rfl) (fun _ => pass_no) (pa_cons (pv 0) (pa_cons pe_int pa_nil)) pk_nil) pe_int (nomark _)) (pss_cons (ps_par (i := 5) (j := 6) (by rfl) sc__law_signed.nd rfl rfl (by decide) rfl rfl (pa_cons (pe_fn (E := noE) h__law_take hr (by decide) (by rfl) (fun _ => pass_no) (pa_cons (pv 0) (pa_cons (pe_op op_add (pe_callB (call_lenK (K := K)) (by rfl) T.n_len (by decide +kernel) (pa_cons (pv 4) pa_nil)) pe_int) pa_nil)) pk_nil) (pa_cons (pe_ix ix_str (pv 3) (pe_fn (E := noE) h__law_take hr (by decide) (by rfl) (fun _ => pass_no) (pa_cons (pv 0) (pa_cons (pe_op op_mul pe_int (pv 1)) pa_nil)) pk_nil) (fun _ _ => rfl)) pa_nil)) (by rfl))
    (pss_one (ps_set (i := 4) sc__law_signed.nd rfl (by first | exact Or.inl rfl | exact Or.inr rfl) (pe_slice sl_str (pe_op op_add_str (pe_op op_add_str (pe_op op_add_str (pe_slice sl_str (pv 4) po_none (po_some (pv 5))) (pv 6)) (pe_fn (E := noE) h__law_turn hr (by decide) (by rfl) (fun _ => pass_no) (pa_cons (pv 6) pa_nil) pk_nil)) (pe_slice sl_str (pv 4) (po_some (pv 5)) po_none)) po_none (po_some (pv 2)))))) pss_nil)
    (pss_one (ps_ret (pv 4)))))), ?_⟩)⟩
  intro P0 μ μf ss R X hA hX
  obtain ⟨p, k, n, letters, most, μ0, rfl, hbx, hn, h1, h2, h3, hR⟩ := hA
  repeat' walk_at "s"
  rw [cut_bmin, cut_bmin]
  obtain ⟨g1, g2⟩ := signs_ok h1 h2
  have g3 : ((cs "abc").take letters).length + ((cs "ABC").take letters).length ≤ 16777216 := by rw [List.length_append] at g1; omega
  refine ro_catT g3 ?_
  generalize (cs "abc").take letters ++ (cs "ABC").take letters = sg at g1 g2
  repeat' walk_at "s"
  refine ev_lcM (ei_rng1 ?_)
  repeat' walk_at "s"
  refine ⟨rfl, rfl, p, k, n, most + 1, μ0, rfl, hbx, by omega, by omega, by omega, fun d hd μ1 hb1 => ?_⟩
  repeat' walk_at "s"
  refine ⟨by omega, by omega, by rw [List.length_map, List.length_range]; omega, fun i acc μ' => ∃ w : List Nat, acc = (w.map fun c => tx [c]) ∧ w.length = i ∧ w.all okc = true ∧ BoxAt μ0 k p (n + 1 + i) μ', ⟨[], rfl, rfl, rfl, hb1⟩, ?_, ?_⟩
  · rintro i s acc μ' hi ⟨w, rfl, hw, ok, hbo⟩
    have hid : i < d := by
      have := (List.getElem?_eq_some_iff.mp hi).1
      rw [List.length_map, List.length_range] at this; omega
    refine gc_name (by decide) ?_
    repeat' walk_at "s"
    refine ⟨rfl, rfl, p, k, n + 1 + i, 2 * letters, μ0, rfl, hbo, by omega, by omega, by omega, fun e he μ2 hb2 => ?_⟩
    have he2 : e < sg.length := by omega
    refine ro_ixS (ch := sg[e]) (by omega) (by rw [atI_natE, List.getElem?_eq_getElem he2]) ?_
    refine ⟨w ++ [sg[e]], by rw [List.map_append]; rfl, by rw [List.length_append, hw]; rfl, ?_, hb2⟩
    rw [List.all_append, ok]
    simpa using List.all_eq_true.mp g2 _ (List.getElem_mem he2)
  · rintro acc μ' ⟨w, rfl, hw, ok, hbo⟩
    rw [List.length_map, List.length_range, Int.toNat_natCast] at hw hbo
    refine .inr ⟨chs w, by rw [List.map_map]; rfl, ?_⟩
    have e : chs w = (w.map fun c => [c]).map fun l => .str (TK.Tx l) := by rw [List.map_map]; rfl
    rw [e]
    refine rm_join (by rw [sum_ones]; omega) ?_
    rw [flat_ones]
    repeat' walk_at "s"
    refine ⟨rfl, rfl, p, k, n + 1 + d, 3, μ0, rfl, hbo, by omega, by omega, by omega, fun c hc μ2 hb2 => ?_⟩
    repeat' walk_at "s"
    · refine ⟨rfl, rfl, p, k, n + 1 + d + 1, w.length + 1, μ0, rfl, hb2, by omega, by omega, by omega, fun a ha μ3 hb3 => ?_⟩
      repeat' walk_at "s"
      refine ⟨rfl, rfl, p, k, n + 1 + d + 1 + 1, 2 * letters, μ0, rfl, hb3, by omega, by omega, by omega, fun e he μ4 hb4 => ?_⟩
      have he2 : e < sg.length := by omega
      have oke := List.all_eq_true.mp g2 _ (List.getElem_mem he2)
      refine ro_ixS (ch := sg[e]) (by omega) (by rw [atI_natE, List.getElem?_eq_getElem he2]) ?_
      repeat' walk_at "s"
      rw [cut_bmin]
      repeat' walk_at "s"
      refine ⟨rfl, rfl, [sg[e]], rfl, by simpa using oke, by show 1 ≤ _; decide, ?_⟩
      refine ro_catT (by simp only [List.length_append, List.length_take, List.length_map, List.length_cons, List.length_nil]; omega) ?_
      repeat' walk_at "s"
      rw [cut_a (by omega)]
      refine ro_catT (by simp only [List.length_append, List.length_take, List.length_drop, List.length_map, List.length_cons, List.length_nil]; omega) ?_
      repeat' walk_at "s"
      rw [cut_bmin]
      refine hR _ _ (take_ok ?_ _) (by rw [List.length_take]; omega) (hb4.le (by omega))
      rw [List.all_append, List.all_append, List.all_append, take_ok ok, drop_ok ok]
      simp [oke, okc_sw oke]
    · exact hR _ _ ok (by omega) (hb2.le (by omega))

theorem k__law_signed (T : Hk K mg) : Fnk P w K mg base 4 3 "_law_signed" [] (fun ss => A__law_signed (permL [0, 1, 2] N0 ss)) := by
  obtain ⟨f, fd, hm, F, G⟩ := w__law_signed (P := P) (w := w) (base := base) T
  exact ⟨f, hm, callee_of F G _ [0, 1, 2] (fun kV doc pm an cdv ct us ws hu hw => match us, ws, hu, hw with | [a0, a1, a2], [], _, _ => rfl)⟩

theorem sc__law_taken : FnScope N__law_taken ["box", "signed"] (defScope s__law_taken) := ⟨rfl, rfl, rfl, by decide +kernel, rfl, by decide +kernel, by decide +kernel⟩
theorem w__law_taken (T : Hk K mg) : Kn P w K mg base 4 "_law_taken" (defArgs s__law_taken) (defBody s__law_taken) (defScope s__law_taken) ["box", "signed"] (A__law_taken) := by
  obtain ⟨fd, F⟩ := T.dd__law_taken
  have h__law_take := k__law_take (P := P) (w := w) (base := base) T
  have h__law_turn := k__law_turn (P := P) (w := w) (base := base) T
  refine ⟨_, fd, T.g__law_taken, F, fn_ok F sc__law_taken (by walk_at "len") (fun cdv Ar outer s H E hr => ⟨_, (pss_cons (ps_for (passes_of rfl) rfl (pi_range1 (by rfl) T.n_range (pa_cons (pe_op op_add (pe_callB (call_lenK (K := K)) (by rfl) T.n_len (by decide +kernel) (pa_cons (pv 1) pa_nil)) pe_int) pa_nil)) (pg_name (i := 2) sc__law_taken.nd rfl (by first | exact Or.inl rfl | exact Or.inr rfl))
    (pss_cons (ps_setLc (i := 3) (own := [("at", 4)]) rfl sc__law_taken.nd rfl rfl (sw_true rfl rfl rfl (by decide +kernel)) (pi_range1 (by rfl) T.n_range (pa_cons (pe_op op_sub (pe_callB (call_lenK (K := K)) (by rfl) T.n_len (by decide +kernel) (pa_cons (pv 1) pa_nil)) pe_int) pa_nil)) (blkOk_by (own := [("at", 4)]) (N := N__law_taken) (sc := defScope s__law_taken) (by decide +kernel)) (fun _ _ _ _ _ => (pg_name (i := 4) sc__law_taken.nd rfl (by first | exact Or.inl rfl | exact Or.inr rfl))) (fun _ _ _ _ _ => (pts_one (pt_cmpR op_eq (pe_ix ix_str (pv 1) (pv 4) (fun _ _ => rfl)) (pe_fn (E := noE) h__law_turn hr (by decide) (by rfl) (fun _ => pass_no) (pa_cons (pe_ix ix_str (pv 1) (pe_op op_add (pv 4) pe_int) (fun _ _ => rfl)) pa_nil) pk_nil) (nomark _)))) (fun _ _ _ _ _ => (pv 4)))
    (pss_cons (ps_if (pt_cmpR (op_eqDK (K := K) hr.units) (pv 3) (pe_lst pa_nil) (nomark _)) (pss_one ps_break) pss_nil)
    (pss_cons (ps_set (i := 4) sc__law_taken.nd rfl (by first | exact Or.inl rfl | exact Or.inr rfl) (pe_ix (ix_listK (K := K)) (pv 3) (pe_fn (E := noE) h__law_take hr (by decide) (by rfl) (fun _ => pass_no) (pa_cons (pv 0) (pa_cons (pe_callB (call_lenK (K := K)) (by rfl) T.n_len (by decide +kernel) (pa_cons (pv 3) pa_nil)) pa_nil)) pk_nil) (fun _ _ => rfl)))
    (pss_one (ps_set (i := 1) sc__law_taken.nd rfl (by first | exact Or.inl rfl | exact Or.inr rfl) (pe_op op_add_str (pe_slice sl_str (pv 1) po_none (po_some (pv 4))) (pe_slice sl_str (pv 1) (po_some (pe_op op_add (pv 4) pe_int)) po_none))))))))
    (pss_one (ps_ret (pv 1)))), ?_⟩)⟩
  intro P0 μ μf ss R X hA hX
  obtain ⟨p, k, n, l, μ0, rfl, hbx, hn, hl, hz, hR⟩ := hA
  repeat' walk_at "s"
  refine st_N (fun ρ μ' => Wk ρ [some (.v (.ref p)), some (tx (red l)), none, none, none] ∧ BoxAt μ0 k p (n + l.length + 1) μ') (st_for (ei_rng1 ?_)) ?_
  · repeat' walk_at "s"
    refine ⟨by omega, by omega, fun i ρ μ' => ∃ s, Wk ρ [some (.v (.ref p)), some (tx s), none, none, none] ∧ s.all okc = true ∧ s.length + 2 * i ≤ l.length + 1 ∧ red s = red l ∧ BoxAt μ0 k p (n + i) μ', ⟨l, by walk_at "w", hl, by omega, rfl, hbx⟩, ?_, ?_⟩
    · rintro i s ρ μ' hi ⟨s, hw, ok, hlen, hred, hbo⟩
      have hil : i < l.length + 1 := by
        have := (List.getElem?_eq_some_iff.mp hi).1
        rw [List.length_map, List.length_range] at this; omega
      refine gt_wk hw (gt_name ?_)
      repeat' walk_at "s"
      refine ev_lcSel (α := Nat) (ei_rng1 ?_)
      repeat' walk_at "s"
      refine ⟨by omega, by omega, List.range (s.length - 1), fun i => I (0 + (i : Int)), canC s, fun i => .int (0 + (i : Int)), by rw [show ((s.length : Int) - 1).toNat = s.length - 1 by omega], by rw [List.length_range]; omega, fun a ha => gc_name (by decide) ?_, ?_⟩
      · have ha1 := List.mem_range.mp ha
        have h1 : a < s.length := by omega
        have h2 : a + 1 < s.length := by omega
        repeat' walk_at "s"
        refine ro_ixS (ch := s[a]) (by omega) (by rw [show (0 : Int) + (a : Int) = (a : Int) by omega, atI_natE, List.getElem?_eq_getElem h1]) ?_
        repeat' walk_at "s"
        refine ro_ixS (ch := s[a + 1]) (by omega) (by rw [show (0 : Int) + (a : Int) + 1 = ((a + 1 : Nat) : Int) by omega, atI_natE, List.getElem?_eq_getElem h2]) ?_
        have ok2 : okc s[a + 1] = true := List.all_eq_true.mp ok _ (List.getElem_mem h2)
        repeat' walk_at "s"
        refine ⟨rfl, rfl, [s[a + 1]], rfl, by simpa using ok2, by show 1 ≤ _; decide, ?_⟩
        repeat' walk_at "s"
        refine ⟨?_, rfl, fun _ => ?_⟩
        · show _ = canC s a
          unfold canC
          rw [List.getElem?_eq_getElem h1, List.getElem?_eq_getElem h2]
          refine decide_eq_decide.mpr ⟨fun z => ?_, fun z => ?_⟩
          · injection z with z; rw [z]; rfl
          · injection z with z; rw [z]; rfl
        · repeat' walk_at "s"
          exact ⟨rfl, rfl⟩
      · refine st_seq (st_if (et_det (b0 := ((List.range (s.length - 1)).filter (canC s)).isEmpty) ?_ ⟨fun hb => ?_, fun hb => ?_⟩))
        · repeat' walk_at "s"
          refine ev_lst (ea_nil ⟨[], rfl, by decide, ro_eqD (shapedI _) shaped_nil ?_⟩)
          rw [eqv_nilR, List.isEmpty_map]
          exact ⟨_, rfl, rfl, rfl⟩
        · have e : red s = s := red_noCancel fun a ha hc => by
            have hm : a ∈ (List.range (s.length - 1)).filter (canC s) := List.mem_filter.mpr ⟨List.mem_range.mpr (by omega), by unfold canC; exact decide_eq_true hc⟩
            rw [List.isEmpty_iff.mp hb] at hm; cases hm
          have e2 : s = red l := e.symm.trans hred
          repeat' walk_at "s"
          subst e2
          exact ⟨by walk_at "w", hbo.le (by omega)⟩
        · have hpos : 0 < ((List.range (s.length - 1)).filter (canC s)).length := by
            rw [List.length_pos_iff]
            intro z; rw [z] at hb; cases hb
          have hle : ((List.range (s.length - 1)).filter (canC s)).length ≤ s.length := by
            have := (List.filter_sublist (p := canC s) (l := List.range (s.length - 1))).length_le
            rw [List.length_range] at this; omega
          repeat' walk_at "s"
          rw [List.length_map]
          refine ⟨rfl, rfl, p, k, n + i, ((List.range (s.length - 1)).filter (canC s)).length, μ0, rfl, hbo, by omega, hpos, by omega, fun d hd μ2 hb2 => ?_⟩
          obtain ⟨a, ha⟩ : ∃ a, ((List.range (s.length - 1)).filter (canC s))[d]? = some a := ⟨_, List.getElem?_eq_getElem hd⟩
          refine ro_ixL (d := .int (0 + (a : Int))) (by rw [atI_natE, List.getElem?_map, ha]; rfl) ?_
          obtain ⟨ha1, ha2⟩ := List.mem_filter.mp (List.mem_of_getElem? ha)
          have ha3 := List.mem_range.mp ha1
          rw [show (0 : Int) + (a : Int) = (a : Int) by omega]
          repeat' walk_at "s"
          rw [cut_b (by omega), show (a : Int) + 2 = ((a + 2 : Nat) : Int) by omega, cut_a (by omega)]
          refine ro_catT (by simp only [List.length_take, List.length_drop]; omega) ?_
          refine ⟨s.take a ++ s.drop (a + 2), by walk_at "w", ?_, ?_, ?_, hb2⟩
          · rw [List.all_append, take_ok ok, drop_ok ok]; rfl
          · simp only [List.length_append, List.length_take, List.length_drop]; omega
          · rw [red_cut (by omega) (of_decide_eq_true ha2)]; exact hred
    · rintro ρ μ' ⟨s, hw, ok, hlen, hred, hbo⟩
      rw [List.length_map, List.length_range] at hlen
      omega
  · rintro ρ μ' ⟨hw, hb⟩
    refine st_wk hw ?_
    repeat' walk_at "s"
    exact hR _ hb

theorem k__law_taken (T : Hk K mg) : Fnk P w K mg base 4 2 "_law_taken" [] (fun ss => A__law_taken (permL [0, 1] N0 ss)) := by
  obtain ⟨f, fd, hm, F, G⟩ := w__law_taken (P := P) (w := w) (base := base) T
  exact ⟨f, hm, callee_of F G _ [0, 1] (fun kV doc pm an cdv ct us ws hu hw => match us, ws, hu, hw with | [a0, a1], [], _, _ => rfl)⟩

end
end K

namespace K
open PySem PySem.Spec PyProof.Rows L2 TK

local macro_rules | `(tactic| walk_at "v") => `(tactic| ((with_reducible refine ev_var (s := ?sv) ?hv ?kv); (case hv => exact rfl)))
set_option hygiene false
local macro_rules | `(tactic| walk_at "e") => `(tactic| (first
  | walk_at "v"
  | with_reducible apply ev_ci
  | with_reducible apply ev_cb
  | with_reducible apply ev_cn
  | with_reducible apply ev_cs
  | with_reducible apply ev_cv
  | with_reducible apply ev_op
  | with_reducible apply ev_un
  | with_reducible apply ev_CB
  | with_reducible apply ev_bm0
  | with_reducible apply ev_bm
  | with_reducible apply ev_m0
  | with_reducible apply ev_m1
  | with_reducible apply ev_sl
  | with_reducible apply ev_notV
  | with_reducible apply ev_andV
  | with_reducible apply ev_orV
  | with_reducible apply ev_if
  | with_reducible apply ev_revS
  | with_reducible apply ev_call
  | with_reducible refine ev_callE X (fun σ C fs μ' d H' x c => hX _ _ _ _ _ x (up_raise c)) ?_
  | with_reducible apply et_test
  | with_reducible apply et_B
  | with_reducible apply et_not
  | with_reducible apply et_and
  | with_reducible apply et_or
  | with_reducible apply ea_nil
  | with_reducible apply ea_cons
  | with_reducible apply eo_none
  | with_reducible apply eo_some
  | with_reducible apply ro_eqI
  | with_reducible apply ro_neI
  | with_reducible apply ro_eqT
  | with_reducible apply ro_neT
  | with_reducible apply ro_eqB
  | with_reducible apply ro_eqS
  | with_reducible apply ro_neS
  | with_reducible apply ro_neB
  | with_reducible apply ro_I
  | with_reducible apply ro_IB
  | with_reducible apply ru_I
  | with_reducible apply rc_abs
  | with_reducible apply rc_int
  | with_reducible apply gt_name
  | with_reducible apply et_yes
  | with_reducible apply ro_isB
  | with_reducible apply ro_isNn
  | with_reducible apply ro_isNb
  | with_reducible apply ro_isNi
  | with_reducible apply ro_isNs
  | with_reducible apply ro_isNl
  | with_reducible apply ro_isNu
  | with_reducible apply ro_isNv
  | with_reducible apply ro_notNn
  | with_reducible apply ro_notNb
  | with_reducible apply ro_notNi
  | with_reducible apply ro_notNs
  | with_reducible apply ro_notNl
  | with_reducible apply ro_notNu
  | with_reducible apply ro_notNv
  | with_reducible refine rc_isiN (b := true) (by decide +kernel) ?_
  | with_reducible refine rc_isiN (b := false) (by decide +kernel) ?_
  | with_reducible refine rc_isiB (b := true) (by decide +kernel) ?_
  | with_reducible refine rc_isiB (b := false) (by decide +kernel) ?_
  | with_reducible refine rc_isiI (b := true) (by decide +kernel) ?_
  | with_reducible refine rc_isiI (b := false) (by decide +kernel) ?_
  | with_reducible refine rc_isiS (b := true) (by decide +kernel) ?_
  | with_reducible refine rc_isiS (b := false) (by decide +kernel) ?_
  | with_reducible refine rc_isiL (b := true) (by decide +kernel) ?_
  | with_reducible refine rc_isiL (b := false) (by decide +kernel) ?_
  | with_reducible refine rc_isiU (b := true) (by decide +kernel) ?_
  | with_reducible refine rc_isiU (b := false) (by decide +kernel) ?_
  | with_reducible apply gt_setL
  | with_reducible apply gt_setD
  | with_reducible apply ev_din
  | with_reducible refine rc_lenT (by first | omega | (simp only [List.length_take, List.length_drop, List.length_append, List.length_reverse, List.length_map, List.length_cons, List.length_nil]; omega) | decide +kernel) ?_
  | with_reducible apply rc_lenL
  | with_reducible apply rc_lenU
  | with_reducible refine rs_str (by first | omega | (simp only [List.length_take, List.length_drop, List.length_append, List.length_reverse, List.length_map, List.length_cons, List.length_nil]; omega) | decide +kernel) ?_
  | with_reducible refine ro_catT (by first | omega | (simp only [List.length_take, List.length_drop, List.length_append, List.length_reverse, List.length_map, List.length_cons, List.length_nil]; omega) | decide +kernel) ?_
  | with_reducible refine gt_tup rfl ?_
  | ((with_reducible show TK.Gts _ _ _ _ _ _); (first | apply gts_cons | apply gts_nil))
  | with_reducible refine ro_mul (by first | omega | decide) ?_
  | with_reducible refine ro_div (by first | omega | decide) ?_
  | with_reducible refine ro_mod (by first | omega | decide) ?_
  | (with_reducible refine ⟨_, rfl, ?_⟩)
  | (with_reducible refine ⟨_, _, rfl, ?_⟩)
  | (refine ⟨fun hb => ?_, fun hb => ?_⟩ <;> first | exact absurd hb (by decide) | (try simp only [decide_eq_true_eq, decide_eq_false_iff_not, Bool.false_eq_true, Bool.true_eq_false, reduceCtorEq, Bool.not_eq_true', Bool.not_eq_false', eq_self, not_true_eq_false, not_false_eq_true] at hb))
  | fail "stuck"))
local macro_rules | `(tactic| walk_at "s") => `(tactic| (first
  | with_reducible apply st_seq
  | with_reducible apply st_next
  | with_reducible apply st_asg
  | with_reducible apply st_ret
  | with_reducible apply st_retN
  | with_reducible apply st_if
  | with_reducible apply st_drop
  | with_reducible apply st_asgG
  | with_reducible apply st_par
  | with_reducible apply st_brk
  | with_reducible apply st_cont
  | walk_at "e"
  | fail "stuck"))
local macro_rules | `(tactic| walk_at "w") => `(tactic| (repeat first | exact wk_nil | apply wk_yes | apply wk_no))
local macro_rules | `(tactic| walk_at "len") => `(tactic| (intro ss μ R X h; first
  | (rcases h with ⟨_, rfl, _⟩ | ⟨_, _, _, rfl, _⟩ | ⟨_, _, rfl, _⟩ <;> rfl)
  | (rcases h with ⟨_, rfl, _⟩ | ⟨_, rfl, _⟩ <;> rfl)
  | (obtain ⟨_, rfl, _⟩ := h; rfl)
  | (obtain ⟨_, _, rfl, _⟩ := h; rfl)
  | (obtain ⟨_, _, _, rfl, _⟩ := h; rfl)
  | (obtain ⟨_, _, _, _, rfl, _⟩ := h; rfl)
  | (obtain ⟨_, _, _, _, _, rfl, _⟩ := h; rfl)
  | (obtain ⟨_, _, _, _, _, _, rfl, _⟩ := h; rfl)
  | (obtain ⟨_, _, _, _, _, _, _, rfl, _⟩ := h; rfl)
  | (obtain ⟨_, _, _, _, _, _, _, _, rfl, _⟩ := h; rfl)
  | (obtain ⟨_, _, _, _, _, _, _, _, _, rfl, _⟩ := h; rfl)))
local macro_rules | `(tactic| walk_at "t2") => `(tactic| (refine ev_tupS ?_; (repeat' walk_at "s"); refine ⟨by show 2 ≤ _; decide, ?_⟩; (repeat' walk_at "s")))

section
variable {P : Program} {w : World} {K : PySem.W.Frag} {mg : Str → Option Value} {base : Heap}


theorem sc__law_ask : FnScope N__law_ask ["word", "args", "named"] (defScope s__law_ask) := ⟨rfl, rfl, rfl, by decide +kernel, rfl, by decide +kernel, by decide +kernel⟩
theorem w__law_ask (T : Hk K mg) : Kn P w K mg base 7 "_law_ask" (defArgs s__law_ask) (defBody s__law_ask) (defScope s__law_ask) ["word", "args", "named"] (A__law_ask K) := by
  obtain ⟨fd, F⟩ := T.dd__law_ask
  have h_is_signed_kvalue := k_is_signed_kvalue (P := P) (w := w) (base := base) T
  have h_is_signed := k_is_signed (P := P) (w := w) (base := base) T
  have c2 := doors_ok (P := P) (w := w) (K := K) (mg := mg) (base := base) (j := 6) (n := 2) (ks := []) (L := doors2 K) (by
    intro q hq
    simp only [doors2, List.mem_cons, List.not_mem_nil, or_false] at hq
    rcases hq with rfl | rfl
    · exact ⟨5, by decide, k_signed_product T, T.g_signed_product⟩
    · exact ⟨5, by decide, k_carried T, T.g_carried⟩)
  have c2k := doors_ok (P := P) (w := w) (K := K) (mg := mg) (base := base) (j := 6) (n := 0) (ks := ["other", "one"]) (L := doors2k K) (by
    intro q hq
    simp only [doors2k, List.mem_cons, List.not_mem_nil, or_false] at hq
    rcases hq with rfl | rfl
    · exact ⟨5, by decide, k_signed_product_kother_one T, T.g_signed_product⟩
    · exact ⟨5, by decide, k_carried_kother_one T, T.g_carried⟩)
  have c1 := doors_ok (P := P) (w := w) (K := K) (mg := mg) (base := base) (j := 6) (n := 1) (ks := []) (L := doors1 K) (by
    intro q hq
    simp only [doors1, List.mem_cons, List.not_mem_nil, or_false] at hq
    rcases hq with rfl | rfl | rfl | rfl
    · exact ⟨5, by decide, k_reduced T, T.g_reduced⟩
    · exact ⟨5, by decide, k_undone T, T.g_undone⟩
    · exact ⟨5, by decide, k_core_of T, T.g_core_of⟩
    · exact ⟨6, by decide, k_signed_root T, T.g_signed_root⟩)
  have c1k := doors_ok (P := P) (w := w) (K := K) (mg := mg) (base := base) (j := 6) (n := 0) (ks := ["signed"]) (L := doors1 K) (by
    intro q hq
    simp only [doors1, List.mem_cons, List.not_mem_nil, or_false] at hq
    rcases hq with rfl | rfl | rfl | rfl
    · exact ⟨5, by decide, k_reduced_ksigned T, T.g_reduced⟩
    · exact ⟨5, by decide, k_undone_ksigned T, T.g_undone⟩
    · exact ⟨5, by decide, k_core_of_ksigned T, T.g_core_of⟩
    · exact ⟨6, by decide, k_signed_root_ksigned T, T.g_signed_root⟩)
  refine ⟨_, fd, T.g__law_ask, F, fn_ok F sc__law_ask (by walk_at "len") (fun cdv Ar outer s H E hr => ⟨_, (pss_one (ps_try_mixT (K := K) (Wout := (fun cls d _ H => E cls d H)) rfl rfl (takes_of rfl rfl rfl rfl)
    (fun W pn xe tk hpo => (pss_cons (ps_if (pt_cmpR op_eq (pv 0) pe_str (nomark _)) (pss_one (ps_ret (pe_lst (pa_cons pe_str (pa_cons (pe_ifExp (pt_val (pv 2)) (pe_fn0 (E := noE) h_is_signed_kvalue hr (by decide) (by rfl) (fun _ => pass_no) (pk_cons (pe_ix (ix_listK (K := K)) (pv 1) pe_int (fun _ _ => rfl)) pk_nil)) (pe_fn (E := noE) h_is_signed hr (by decide) (by rfl) (fun _ => pass_no) (pa_cons (pe_ix (ix_listK (K := K)) (pv 1) pe_int (fun _ _ => rfl)) pa_nil) pk_nil)) pa_nil))))) pss_nil)
    (pss_cons (ps_if (pt_cmpR (op_in_seqK (K := K)) (pv 0) (pe_lst (pa_cons pe_str (pa_cons pe_str pa_nil))) (by rfl)) (pss_cons (ps_set (i := 5) sc__law_ask.nd rfl (by first | exact Or.inl rfl | exact Or.inr rfl) (pe_ifExp (pt_cmpR op_eq (pv 0) pe_str (nomark _)) (pe_glob (v := .ref (He.ga K "signed_product")) (by rfl) T.g_signed_product rfl) (pe_glob (v := .ref (He.ga K "carried")) (by rfl) T.g_carried rfl)))
    (pss_one (ps_ret (pe_lst (pa_cons pe_str (pa_cons (pe_ifExp (pt_val (pv 2)) (pe_lx0 (i := 5) (E := WE W) (S := (DoorS K (doors2k K))) c2k (hr.mono (by decide)) rfl (Or.inl rfl) (fun σ => passAt tk σ) (pk_cons (pe_ix (ix_listK (K := K)) (pv 1) pe_int (fun _ _ => rfl)) (pk_cons (pe_ix (ix_listK (K := K)) (pv 1) pe_int (fun _ _ => rfl)) pk_nil))) (pe_lx (i := 5) (E := WE W) (S := (DoorS K (doors2 K))) c2 (hr.mono (by decide)) rfl (Or.inl rfl) (fun σ => passAt tk σ) (pa_cons (pe_ix (ix_listK (K := K)) (pv 1) pe_int (fun _ _ => rfl)) (pa_cons (pe_ix (ix_listK (K := K)) (pv 1) pe_int (fun _ _ => rfl)) pa_nil)) pk_nil)) pa_nil)))))) pss_nil)
    (pss_cons (ps_set (i := 4) sc__law_ask.nd rfl (by first | exact Or.inl rfl | exact Or.inr rfl) (pe_lst (pa_cons (pe_glob (v := .ref (He.ga K "reduced")) (by rfl) T.g_reduced rfl) (pa_cons (pe_glob (v := .ref (He.ga K "undone")) (by rfl) T.g_undone rfl) (pa_cons (pe_glob (v := .ref (He.ga K "core_of")) (by rfl) T.g_core_of rfl) (pa_cons (pe_glob (v := .ref (He.ga K "signed_root")) (by rfl) T.g_signed_root rfl) pa_nil))))))
    (pss_cons (ps_set (i := 5) sc__law_ask.nd rfl (by first | exact Or.inl rfl | exact Or.inr rfl) (pe_ix (ix_listK (K := K)) (pv 4) (pe_bmK (K := K) PySem.F.plainAttrs_list PySem.F.slot_list_index PySem.F.type_list_index (mt_indexK (K := K)) (pe_lst (pa_cons pe_str (pa_cons pe_str (pa_cons pe_str (pa_cons pe_str pa_nil))))) (pa_cons (pv 0) pa_nil)) (fun _ _ => rfl)))
    (pss_one (ps_ret (pe_lst (pa_cons pe_str (pa_cons (pe_ifExp (pt_val (pv 2)) (pe_lx0 (i := 5) (E := WE W) (S := (DoorS K (doors1 K))) c1k (hr.mono (by decide)) rfl (Or.inl rfl) (fun σ => passAt tk σ) (pk_cons (pe_ix (ix_listK (K := K)) (pv 1) pe_int (fun _ _ => rfl)) pk_nil)) (pe_lx (i := 5) (E := WE W) (S := (DoorS K (doors1 K))) c1 (hr.mono (by decide)) rfl (Or.inl rfl) (fun σ => passAt tk σ) (pa_cons (pe_ix (ix_listK (K := K)) (pv 1) pe_int (fun _ _ => rfl)) pa_nil) pk_nil)) pa_nil))))))))))
    (HdsMix.as (i := 3) ⟨by rfl, by decide, Or.inl T.g_InvalidSigned⟩ sc__law_ask.nd rfl rfl (fun a oe cls d pn hz hf => (pss_one (ps_ret (pe_lst (pa_cons pe_str (pa_cons (pe_xf T.xf_InvalidSigned T.no_InvalidSigned_given hz hf (pv 3)) pa_nil)))))) (HdsMix.cons ⟨by rfl, by decide, Or.inl T.g_Empty⟩ (fun a oe cls d pn hz hf => (pss_one (ps_ret (pe_lst (pa_cons pe_str (pa_cons pe_non pa_nil)))))) (HdsMix.cons ⟨by rfl, by decide, Or.inl T.g_StringError⟩ (fun a oe cls d pn hz hf => (pss_one (ps_ret (pe_lst (pa_cons pe_str (pa_cons pe_non pa_nil)))))) HdsMix.nil))))), ?_⟩)⟩
  intro P0 μ μf ss R X hA hX
  obtain ⟨wd, args, named, res, rfl, hq, hR⟩ := hA
  refine st_tryT (fun ρ' C fs μ' => ρ'.length = 6 ∧ XE K R C fs μ') ?_ ?_
  · intro F' hF hM W hW
    have hE : ∀ (ρ1 : Rho), ρ1.length = 6 → ∀ (σ : L2.St) (C : Addr) (fs : Option (List (Str × Sc))) (μ' : Mu) (d : Option Addr) (H' : Hp), XE K R C fs μ' → Cf ((F'.up.and (Sl σ ρ1)).and (xat fs d)) (μ' ++ F'.mu) H' → WE W σ (.ref C) d H' := fun ρ1 h1 σ C fs μ' d H' x c => hW ρ1 C fs μ' σ d H' ⟨h1, x⟩ c
    cases hq with
    | isT hl =>
      repeat' walk_at "s"
      refine ev_lst ?_
      repeat' walk_at "s"
      all_goals refine ro_ixLS atI_c0 ?_
      all_goals repeat' walk_at "s"
      all_goals refine ⟨rfl, rfl, _, rfl, .inr ⟨_, rfl, hl, ?_⟩⟩
      all_goals repeat' walk_at "s"
      all_goals exact ⟨[st "told", .bool true], rfl, by show 2 ≤ _; decide, hR⟩
    | isF hbad =>
      repeat' walk_at "s"
      refine ev_lst ?_
      repeat' walk_at "s"
      all_goals refine ro_ixLS atI_c0 ?_
      all_goals repeat' walk_at "s"
      all_goals refine ⟨rfl, rfl, _, rfl, .inl ⟨hbad, ?_⟩⟩
      all_goals repeat' walk_at "s"
      all_goals exact ⟨[st "told", .bool false], rfl, by show 2 ≤ _; decide, hR⟩
    | prod hl hm =>
      repeat' walk_at "s"
      refine ev_lst ?_
      repeat' walk_at "s"
      refine ⟨[st "product", st "carried"], rfl, by show 2 ≤ _; decide, ro_inLb (b := true) (by rfl) (by rfl) (by decide +kernel) ?_⟩
      repeat' walk_at "s"
      refine ev_lst ?_
      repeat' walk_at "s"
      all_goals refine ev_callLE (XE K R) (hE _ rfl) rfl ⟨_, List.Mem.head _, rfl, rfl⟩ ?_
      all_goals repeat' walk_at "s"
      · refine ro_ixLS atI_c1 ?_
        repeat' walk_at "s"
        refine ro_ixLS atI_c0 ?_
        repeat' walk_at "s"
        refine ⟨rfl, rfl, _, _, rfl, .inr ⟨_, rfl, hl, .inr ⟨_, rfl, hm, ?_⟩⟩⟩
        repeat' walk_at "s"
        exact ⟨[st "told", _], rfl, by show 2 ≤ _; decide, hR⟩
      · refine ro_ixLS atI_c0 ?_
        repeat' walk_at "s"
        refine ro_ixLS atI_c1 ?_
        repeat' walk_at "s"
        refine ⟨rfl, rfl, _, _, rfl, .inr ⟨_, rfl, hl, .inr ⟨_, rfl, hm, ?_⟩⟩⟩
        repeat' walk_at "s"
        exact ⟨[st "told", _], rfl, by show 2 ≤ _; decide, hR⟩
    | @car l m r hl hm =>
      repeat' walk_at "s"
      refine ev_lst ?_
      repeat' walk_at "s"
      refine ⟨[st "product", st "carried"], rfl, by show 2 ≤ _; decide, ro_inLb (b := true) (by rfl) (by rfl) (by decide +kernel) ?_⟩
      repeat' walk_at "s"
      refine ev_lst ?_
      repeat' walk_at "s"
      all_goals refine ev_callLE (XE K R) (hE _ rfl) rfl ⟨_, List.Mem.tail _ (List.Mem.head _), rfl, rfl⟩ ?_
      all_goals repeat' walk_at "s"
      · refine ro_ixLS atI_c1 ?_
        repeat' walk_at "s"
        refine ro_ixLS atI_c0 ?_
        repeat' walk_at "s"
        refine ⟨rfl, rfl, _, _, rfl, .inr ⟨_, rfl, hl, .inr ⟨_, rfl, hm, ?_⟩⟩⟩
        repeat' walk_at "s"
        exact ⟨[st "told", carryD l m], by rw [carry_d]; rfl, by show 2 ≤ _; decide, hR⟩
      · refine ro_ixLS atI_c0 ?_
        repeat' walk_at "s"
        refine ro_ixLS atI_c1 ?_
        repeat' walk_at "s"
        refine ⟨rfl, rfl, _, _, rfl, .inr ⟨_, rfl, hl, .inr ⟨_, rfl, hm, ?_⟩⟩⟩
        repeat' walk_at "s"
        exact ⟨[st "told", carryD l m], by rw [carry_d]; rfl, by show 2 ≤ _; decide, hR⟩
    | two1 hw hbad =>
      simp only [twoW, List.mem_cons, List.not_mem_nil, or_false] at hw
      rcases hw with rfl | rfl
      · repeat' walk_at "s"
        refine ev_lst ?_
        repeat' walk_at "s"
        refine ⟨[st "product", st "carried"], rfl, by show 2 ≤ _; decide, ro_inLb (b := true) (by rfl) (by rfl) (by decide +kernel) ?_⟩
        repeat' walk_at "s"
        refine ev_lst ?_
        repeat' walk_at "s"
        all_goals refine ev_callLE (XE K R) (hE _ rfl) rfl ⟨_, List.Mem.head _, rfl, rfl⟩ ?_
        all_goals repeat' walk_at "s"
        · refine ro_ixLS atI_c1 ?_
          repeat' walk_at "s"
          refine ro_ixLS atI_c0 ?_
          repeat' walk_at "s"
          refine ⟨rfl, rfl, _, _, rfl, .inl ⟨hbad, .inl ⟨rfl, _, rfl, hR⟩⟩⟩
        · refine ro_ixLS atI_c0 ?_
          repeat' walk_at "s"
          refine ro_ixLS atI_c1 ?_
          repeat' walk_at "s"
          refine ⟨rfl, rfl, _, _, rfl, .inl ⟨hbad, .inl ⟨rfl, _, rfl, hR⟩⟩⟩
      · repeat' walk_at "s"
        refine ev_lst ?_
        repeat' walk_at "s"
        refine ⟨[st "product", st "carried"], rfl, by show 2 ≤ _; decide, ro_inLb (b := true) (by rfl) (by rfl) (by decide +kernel) ?_⟩
        repeat' walk_at "s"
        refine ev_lst ?_
        repeat' walk_at "s"
        all_goals refine ev_callLE (XE K R) (hE _ rfl) rfl ⟨_, List.Mem.tail _ (List.Mem.head _), rfl, rfl⟩ ?_
        all_goals repeat' walk_at "s"
        · refine ro_ixLS atI_c1 ?_
          repeat' walk_at "s"
          refine ro_ixLS atI_c0 ?_
          repeat' walk_at "s"
          refine ⟨rfl, rfl, _, _, rfl, .inl ⟨hbad, .inl ⟨rfl, _, rfl, hR⟩⟩⟩
        · refine ro_ixLS atI_c0 ?_
          repeat' walk_at "s"
          refine ro_ixLS atI_c1 ?_
          repeat' walk_at "s"
          refine ⟨rfl, rfl, _, _, rfl, .inl ⟨hbad, .inl ⟨rfl, _, rfl, hR⟩⟩⟩
    | two2 hw hl hbad =>
      simp only [twoW, List.mem_cons, List.not_mem_nil, or_false] at hw
      rcases hw with rfl | rfl
      · repeat' walk_at "s"
        refine ev_lst ?_
        repeat' walk_at "s"
        refine ⟨[st "product", st "carried"], rfl, by show 2 ≤ _; decide, ro_inLb (b := true) (by rfl) (by rfl) (by decide +kernel) ?_⟩
        repeat' walk_at "s"
        refine ev_lst ?_
        repeat' walk_at "s"
        all_goals refine ev_callLE (XE K R) (hE _ rfl) rfl ⟨_, List.Mem.head _, rfl, rfl⟩ ?_
        all_goals repeat' walk_at "s"
        · refine ro_ixLS atI_c1 ?_
          repeat' walk_at "s"
          refine ro_ixLS atI_c0 ?_
          repeat' walk_at "s"
          refine ⟨rfl, rfl, _, _, rfl, .inr ⟨_, rfl, hl, .inl ⟨hbad, .inl ⟨rfl, _, rfl, hR⟩⟩⟩⟩
        · refine ro_ixLS atI_c0 ?_
          repeat' walk_at "s"
          refine ro_ixLS atI_c1 ?_
          repeat' walk_at "s"
          refine ⟨rfl, rfl, _, _, rfl, .inr ⟨_, rfl, hl, .inl ⟨hbad, .inl ⟨rfl, _, rfl, hR⟩⟩⟩⟩
      · repeat' walk_at "s"
        refine ev_lst ?_
        repeat' walk_at "s"
        refine ⟨[st "product", st "carried"], rfl, by show 2 ≤ _; decide, ro_inLb (b := true) (by rfl) (by rfl) (by decide +kernel) ?_⟩
        repeat' walk_at "s"
        refine ev_lst ?_
        repeat' walk_at "s"
        all_goals refine ev_callLE (XE K R) (hE _ rfl) rfl ⟨_, List.Mem.tail _ (List.Mem.head _), rfl, rfl⟩ ?_
        all_goals repeat' walk_at "s"
        · refine ro_ixLS atI_c1 ?_
          repeat' walk_at "s"
          refine ro_ixLS atI_c0 ?_
          repeat' walk_at "s"
          refine ⟨rfl, rfl, _, _, rfl, .inr ⟨_, rfl, hl, .inl ⟨hbad, .inl ⟨rfl, _, rfl, hR⟩⟩⟩⟩
        · refine ro_ixLS atI_c0 ?_
          repeat' walk_at "s"
          refine ro_ixLS atI_c1 ?_
          repeat' walk_at "s"
          refine ⟨rfl, rfl, _, _, rfl, .inr ⟨_, rfl, hl, .inl ⟨hbad, .inl ⟨rfl, _, rfl, hR⟩⟩⟩⟩
    | red hl =>
      repeat' walk_at "s"
      refine ev_lst ?_
      repeat' walk_at "s"
      refine ⟨[st "product", st "carried"], rfl, by show 2 ≤ _; decide, ro_inLb (b := false) (by rfl) (by rfl) (by decide +kernel) ?_⟩
      repeat' walk_at "s"
      refine ev_lstS ?_
      repeat' walk_at "s"
      refine ⟨by show 4 ≤ _; decide, ?_⟩
      repeat' walk_at "s"
      refine ev_lst ?_
      repeat' walk_at "s"
      refine ⟨[st "reduced", st "undone", st "core", st "root"], rfl, by show 4 ≤ _; decide, rfl, ?_⟩
      repeat' walk_at "s"
      refine rm_idx (j := 0) (by rfl) (by rfl) (by decide +kernel) ?_
      refine ro_ixLS (s := .v (.ref (He.ga K "reduced"))) (by rfl) ?_
      repeat' walk_at "s"
      refine ev_lst ?_
      repeat' walk_at "s"
      all_goals refine ev_callLE (XE K R) (hE _ rfl) rfl ⟨_, List.Mem.head _, rfl, rfl⟩ ?_
      all_goals repeat' walk_at "s"
      all_goals refine ro_ixLS atI_c0 ?_
      all_goals repeat' walk_at "s"
      all_goals refine ⟨rfl, rfl, .inl ⟨_, rfl, hl, ?_⟩⟩
      all_goals repeat' walk_at "s"
      all_goals exact ⟨[st "told", _], rfl, by show 2 ≤ _; decide, hR⟩
    | und hl =>
      repeat' walk_at "s"
      refine ev_lst ?_
      repeat' walk_at "s"
      refine ⟨[st "product", st "carried"], rfl, by show 2 ≤ _; decide, ro_inLb (b := false) (by rfl) (by rfl) (by decide +kernel) ?_⟩
      repeat' walk_at "s"
      refine ev_lstS ?_
      repeat' walk_at "s"
      refine ⟨by show 4 ≤ _; decide, ?_⟩
      repeat' walk_at "s"
      refine ev_lst ?_
      repeat' walk_at "s"
      refine ⟨[st "reduced", st "undone", st "core", st "root"], rfl, by show 4 ≤ _; decide, rfl, ?_⟩
      repeat' walk_at "s"
      refine rm_idx (j := 1) (by rfl) (by rfl) (by decide +kernel) ?_
      refine ro_ixLS (s := .v (.ref (He.ga K "undone"))) (by rfl) ?_
      repeat' walk_at "s"
      refine ev_lst ?_
      repeat' walk_at "s"
      all_goals refine ev_callLE (XE K R) (hE _ rfl) rfl ⟨_, List.Mem.tail _ (List.Mem.head _), rfl, rfl⟩ ?_
      all_goals repeat' walk_at "s"
      all_goals refine ro_ixLS atI_c0 ?_
      all_goals repeat' walk_at "s"
      all_goals refine ⟨rfl, rfl, .inl ⟨_, rfl, hl, ?_⟩⟩
      all_goals repeat' walk_at "s"
      all_goals exact ⟨[st "told", _], rfl, by show 2 ≤ _; decide, hR⟩
    | core hl =>
      repeat' walk_at "s"
      refine ev_lst ?_
      repeat' walk_at "s"
      refine ⟨[st "product", st "carried"], rfl, by show 2 ≤ _; decide, ro_inLb (b := false) (by rfl) (by rfl) (by decide +kernel) ?_⟩
      repeat' walk_at "s"
      refine ev_lstS ?_
      repeat' walk_at "s"
      refine ⟨by show 4 ≤ _; decide, ?_⟩
      repeat' walk_at "s"
      refine ev_lst ?_
      repeat' walk_at "s"
      refine ⟨[st "reduced", st "undone", st "core", st "root"], rfl, by show 4 ≤ _; decide, rfl, ?_⟩
      repeat' walk_at "s"
      refine rm_idx (j := 2) (by rfl) (by rfl) (by decide +kernel) ?_
      refine ro_ixLS (s := .v (.ref (He.ga K "core_of"))) (by rfl) ?_
      repeat' walk_at "s"
      refine ev_lst ?_
      repeat' walk_at "s"
      all_goals refine ev_callLE (XE K R) (hE _ rfl) rfl ⟨_, List.Mem.tail _ (List.Mem.tail _ (List.Mem.head _)), rfl, rfl⟩ ?_
      all_goals repeat' walk_at "s"
      all_goals refine ro_ixLS atI_c0 ?_
      all_goals repeat' walk_at "s"
      all_goals refine ⟨rfl, rfl, .inl ⟨_, rfl, hl, ?_⟩⟩
      all_goals repeat' walk_at "s"
      all_goals exact ⟨[st "told", _], rfl, by show 2 ≤ _; decide, hR⟩
    | root hl hne =>
      repeat' walk_at "s"
      refine ev_lst ?_
      repeat' walk_at "s"
      refine ⟨[st "product", st "carried"], rfl, by show 2 ≤ _; decide, ro_inLb (b := false) (by rfl) (by rfl) (by decide +kernel) ?_⟩
      repeat' walk_at "s"
      refine ev_lstS ?_
      repeat' walk_at "s"
      refine ⟨by show 4 ≤ _; decide, ?_⟩
      repeat' walk_at "s"
      refine ev_lst ?_
      repeat' walk_at "s"
      refine ⟨[st "reduced", st "undone", st "core", st "root"], rfl, by show 4 ≤ _; decide, rfl, ?_⟩
      repeat' walk_at "s"
      refine rm_idx (j := 3) (by rfl) (by rfl) (by decide +kernel) ?_
      refine ro_ixLS (s := .v (.ref (He.ga K "signed_root"))) (by rfl) ?_
      repeat' walk_at "s"
      refine ev_lst ?_
      repeat' walk_at "s"
      all_goals refine ev_callLE (XE K R) (hE _ rfl) rfl ⟨_, List.Mem.tail _ (List.Mem.tail _ (List.Mem.tail _ (List.Mem.head _))), rfl, rfl⟩ ?_
      all_goals repeat' walk_at "s"
      all_goals refine ro_ixLS atI_c0 ?_
      all_goals repeat' walk_at "s"
      all_goals refine ⟨rfl, rfl, .inl ⟨_, rfl, hl, .inl ⟨hne, ?_⟩⟩⟩
      all_goals repeat' walk_at "s"
      all_goals exact ⟨[st "told", _], rfl, by show 2 ≤ _; decide, hR⟩
    | rootE hl he =>
      repeat' walk_at "s"
      refine ev_lst ?_
      repeat' walk_at "s"
      refine ⟨[st "product", st "carried"], rfl, by show 2 ≤ _; decide, ro_inLb (b := false) (by rfl) (by rfl) (by decide +kernel) ?_⟩
      repeat' walk_at "s"
      refine ev_lstS ?_
      repeat' walk_at "s"
      refine ⟨by show 4 ≤ _; decide, ?_⟩
      repeat' walk_at "s"
      refine ev_lst ?_
      repeat' walk_at "s"
      refine ⟨[st "reduced", st "undone", st "core", st "root"], rfl, by show 4 ≤ _; decide, rfl, ?_⟩
      repeat' walk_at "s"
      refine rm_idx (j := 3) (by rfl) (by rfl) (by decide +kernel) ?_
      refine ro_ixLS (s := .v (.ref (He.ga K "signed_root"))) (by rfl) ?_
      repeat' walk_at "s"
      refine ev_lst ?_
      repeat' walk_at "s"
      all_goals refine ev_callLE (XE K R) (hE _ rfl) rfl ⟨_, List.Mem.tail _ (List.Mem.tail _ (List.Mem.tail _ (List.Mem.head _))), rfl, rfl⟩ ?_
      all_goals repeat' walk_at "s"
      all_goals refine ro_ixLS atI_c0 ?_
      all_goals repeat' walk_at "s"
      all_goals refine ⟨rfl, rfl, .inl ⟨_, rfl, hl, .inr ⟨he, .inr ⟨rfl, rfl, hR⟩⟩⟩⟩
    | one1 hw hbad =>
      simp only [oneW, List.mem_cons, List.not_mem_nil, or_false] at hw
      rcases hw with rfl | rfl | rfl | rfl
      · repeat' walk_at "s"
        refine ev_lst ?_
        repeat' walk_at "s"
        refine ⟨[st "product", st "carried"], rfl, by show 2 ≤ _; decide, ro_inLb (b := false) (by rfl) (by rfl) (by decide +kernel) ?_⟩
        repeat' walk_at "s"
        refine ev_lstS ?_
        repeat' walk_at "s"
        refine ⟨by show 4 ≤ _; decide, ?_⟩
        repeat' walk_at "s"
        refine ev_lst ?_
        repeat' walk_at "s"
        refine ⟨[st "reduced", st "undone", st "core", st "root"], rfl, by show 4 ≤ _; decide, rfl, ?_⟩
        repeat' walk_at "s"
        refine rm_idx (j := 0) (by rfl) (by rfl) (by decide +kernel) ?_
        refine ro_ixLS (s := .v (.ref (He.ga K "reduced"))) (by rfl) ?_
        repeat' walk_at "s"
        refine ev_lst ?_
        repeat' walk_at "s"
        all_goals refine ev_callLE (XE K R) (hE _ rfl) rfl ⟨_, List.Mem.head _, rfl, rfl⟩ ?_
        all_goals repeat' walk_at "s"
        all_goals refine ro_ixLS atI_c0 ?_
        all_goals repeat' walk_at "s"
        all_goals refine ⟨rfl, rfl, .inr ⟨_, rfl, hbad, .inl ⟨rfl, _, rfl, hR⟩⟩⟩
      · repeat' walk_at "s"
        refine ev_lst ?_
        repeat' walk_at "s"
        refine ⟨[st "product", st "carried"], rfl, by show 2 ≤ _; decide, ro_inLb (b := false) (by rfl) (by rfl) (by decide +kernel) ?_⟩
        repeat' walk_at "s"
        refine ev_lstS ?_
        repeat' walk_at "s"
        refine ⟨by show 4 ≤ _; decide, ?_⟩
        repeat' walk_at "s"
        refine ev_lst ?_
        repeat' walk_at "s"
        refine ⟨[st "reduced", st "undone", st "core", st "root"], rfl, by show 4 ≤ _; decide, rfl, ?_⟩
        repeat' walk_at "s"
        refine rm_idx (j := 1) (by rfl) (by rfl) (by decide +kernel) ?_
        refine ro_ixLS (s := .v (.ref (He.ga K "undone"))) (by rfl) ?_
        repeat' walk_at "s"
        refine ev_lst ?_
        repeat' walk_at "s"
        all_goals refine ev_callLE (XE K R) (hE _ rfl) rfl ⟨_, List.Mem.tail _ (List.Mem.head _), rfl, rfl⟩ ?_
        all_goals repeat' walk_at "s"
        all_goals refine ro_ixLS atI_c0 ?_
        all_goals repeat' walk_at "s"
        all_goals refine ⟨rfl, rfl, .inr ⟨_, rfl, hbad, .inl ⟨rfl, _, rfl, hR⟩⟩⟩
      · repeat' walk_at "s"
        refine ev_lst ?_
        repeat' walk_at "s"
        refine ⟨[st "product", st "carried"], rfl, by show 2 ≤ _; decide, ro_inLb (b := false) (by rfl) (by rfl) (by decide +kernel) ?_⟩
        repeat' walk_at "s"
        refine ev_lstS ?_
        repeat' walk_at "s"
        refine ⟨by show 4 ≤ _; decide, ?_⟩
        repeat' walk_at "s"
        refine ev_lst ?_
        repeat' walk_at "s"
        refine ⟨[st "reduced", st "undone", st "core", st "root"], rfl, by show 4 ≤ _; decide, rfl, ?_⟩
        repeat' walk_at "s"
        refine rm_idx (j := 2) (by rfl) (by rfl) (by decide +kernel) ?_
        refine ro_ixLS (s := .v (.ref (He.ga K "core_of"))) (by rfl) ?_
        repeat' walk_at "s"
        refine ev_lst ?_
        repeat' walk_at "s"
        all_goals refine ev_callLE (XE K R) (hE _ rfl) rfl ⟨_, List.Mem.tail _ (List.Mem.tail _ (List.Mem.head _)), rfl, rfl⟩ ?_
        all_goals repeat' walk_at "s"
        all_goals refine ro_ixLS atI_c0 ?_
        all_goals repeat' walk_at "s"
        all_goals refine ⟨rfl, rfl, .inr ⟨_, rfl, hbad, .inl ⟨rfl, _, rfl, hR⟩⟩⟩
      · repeat' walk_at "s"
        refine ev_lst ?_
        repeat' walk_at "s"
        refine ⟨[st "product", st "carried"], rfl, by show 2 ≤ _; decide, ro_inLb (b := false) (by rfl) (by rfl) (by decide +kernel) ?_⟩
        repeat' walk_at "s"
        refine ev_lstS ?_
        repeat' walk_at "s"
        refine ⟨by show 4 ≤ _; decide, ?_⟩
        repeat' walk_at "s"
        refine ev_lst ?_
        repeat' walk_at "s"
        refine ⟨[st "reduced", st "undone", st "core", st "root"], rfl, by show 4 ≤ _; decide, rfl, ?_⟩
        repeat' walk_at "s"
        refine rm_idx (j := 3) (by rfl) (by rfl) (by decide +kernel) ?_
        refine ro_ixLS (s := .v (.ref (He.ga K "signed_root"))) (by rfl) ?_
        repeat' walk_at "s"
        refine ev_lst ?_
        repeat' walk_at "s"
        all_goals refine ev_callLE (XE K R) (hE _ rfl) rfl ⟨_, List.Mem.tail _ (List.Mem.tail _ (List.Mem.tail _ (List.Mem.head _))), rfl, rfl⟩ ?_
        all_goals repeat' walk_at "s"
        all_goals refine ro_ixLS atI_c0 ?_
        all_goals repeat' walk_at "s"
        all_goals refine ⟨rfl, rfl, .inr ⟨_, rfl, hbad, .inl ⟨rfl, _, rfl, hR⟩⟩⟩
  · intro ρ' C fs μ' F' hF hM hx
    obtain ⟨hlen, ⟨rfl, s, rfl, hr⟩ | ⟨rfl, rfl, hr⟩⟩ := hx
    · refine ⟨true, T.x_InvalidSigned_InvalidSigned, fun _ a d F2 h2 h3 => ?_, fun z => (by cases z)⟩
      repeat' walk_at "s"
      refine ev_lstS ?_
      repeat' walk_at "s"
      refine ev_xf (h2.trans Up.and_r) (List.getElem?_set_self (by omega)) (s := s) (by simp) ?_
      repeat' walk_at "s"
      exact ⟨by show 2 ≤ _; decide, hr⟩
    · refine ⟨false, T.x_Empty_InvalidSigned, fun z => (by cases z), fun _ => ⟨true, T.x_Empty_Empty, fun _ a d F2 h2 h3 => ?_, fun z => (by cases z)⟩⟩
      repeat' walk_at "s"
      refine ev_lst ?_
      repeat' walk_at "s"
      exact ⟨[st "empty", .none], rfl, by show 2 ≤ _; decide, hr⟩

theorem k__law_ask (T : Hk K mg) : Fnk P w K mg base 7 3 "_law_ask" [] (fun ss => A__law_ask K (permL [0, 1, 2] N0 ss)) := by
  obtain ⟨f, fd, hm, F, G⟩ := w__law_ask (P := P) (w := w) (base := base) T
  exact ⟨f, hm, callee_of F G _ [0, 1, 2] (fun kV doc pm an cdv ct us ws hu hw => match us, ws, hu, hw with | [a0, a1, a2], [], _, _ => rfl)⟩

end
end K

namespace K
open PySem PySem.Spec PyProof.Rows L2 TK

local macro_rules | `(tactic| walk_at "v") => `(tactic| ((with_reducible refine ev_var (s := ?sv) ?hv ?kv); (case hv => exact rfl)))
set_option hygiene false
local macro_rules | `(tactic| walk_at "e") => `(tactic| (first
  | walk_at "v"
  | with_reducible apply ev_ci
  | with_reducible apply ev_cb
  | with_reducible apply ev_cn
  | with_reducible apply ev_cs
  | with_reducible apply ev_cv
  | with_reducible apply ev_op
  | with_reducible apply ev_un
  | with_reducible apply ev_CB
  | with_reducible apply ev_bm0
  | with_reducible apply ev_bm
  | with_reducible apply ev_m0
  | with_reducible apply ev_m1
  | with_reducible apply ev_sl
  | with_reducible apply ev_notV
  | with_reducible apply ev_andV
  | with_reducible apply ev_orV
  | with_reducible apply ev_if
  | with_reducible apply ev_revS
  | with_reducible apply ev_call
  | with_reducible refine ev_callE X (fun σ C fs μ' d H' x c => hX _ _ _ _ _ x (up_raise c)) ?_
  | with_reducible apply et_test
  | with_reducible apply et_B
  | with_reducible apply et_not
  | with_reducible apply et_and
  | with_reducible apply et_or
  | with_reducible apply ea_nil
  | with_reducible apply ea_cons
  | with_reducible apply eo_none
  | with_reducible apply eo_some
  | with_reducible apply ro_eqI
  | with_reducible apply ro_neI
  | with_reducible apply ro_eqT
  | with_reducible apply ro_neT
  | with_reducible apply ro_eqB
  | with_reducible apply ro_eqS
  | with_reducible apply ro_neS
  | with_reducible apply ro_neB
  | with_reducible apply ro_I
  | with_reducible apply ro_IB
  | with_reducible apply ru_I
  | with_reducible apply rc_abs
  | with_reducible apply rc_int
  | with_reducible apply gt_name
  | with_reducible apply et_yes
  | with_reducible apply ro_isB
  | with_reducible apply ro_isNn
  | with_reducible apply ro_isNb
  | with_reducible apply ro_isNi
  | with_reducible apply ro_isNs
  | with_reducible apply ro_isNl
  | with_reducible apply ro_isNu
  | with_reducible apply ro_isNv
  | with_reducible apply ro_notNn
  | with_reducible apply ro_notNb
  | with_reducible apply ro_notNi
  | with_reducible apply ro_notNs
  | with_reducible apply ro_notNl
  | with_reducible apply ro_notNu
  | with_reducible apply ro_notNv
  | with_reducible refine rc_isiN (b := true) (by decide +kernel) ?_
  | with_reducible refine rc_isiN (b := false) (by decide +kernel) ?_
  | with_reducible refine rc_isiB (b := true) (by decide +kernel) ?_
  | with_reducible refine rc_isiB (b := false) (by decide +kernel) ?_
  | with_reducible refine rc_isiI (b := true) (by decide +kernel) ?_
  | with_reducible refine rc_isiI (b := false) (by decide +kernel) ?_
  | with_reducible refine rc_isiS (b := true) (by decide +kernel) ?_
  | with_reducible refine rc_isiS (b := false) (by decide +kernel) ?_
  | with_reducible refine rc_isiL (b := true) (by decide +kernel) ?_
  | with_reducible refine rc_isiL (b := false) (by decide +kernel) ?_
  | with_reducible refine rc_isiU (b := true) (by decide +kernel) ?_
  | with_reducible refine rc_isiU (b := false) (by decide +kernel) ?_
  | with_reducible apply gt_setL
  | with_reducible apply gt_setD
  | with_reducible apply ev_din
  | with_reducible refine rc_lenT (by first | omega | (simp only [List.length_take, List.length_drop, List.length_append, List.length_reverse, List.length_map, List.length_cons, List.length_nil]; omega) | decide +kernel) ?_
  | with_reducible apply rc_lenL
  | with_reducible apply rc_lenU
  | with_reducible refine rs_str (by first | omega | (simp only [List.length_take, List.length_drop, List.length_append, List.length_reverse, List.length_map, List.length_cons, List.length_nil]; omega) | decide +kernel) ?_
  | with_reducible refine ro_catT (by first | omega | (simp only [List.length_take, List.length_drop, List.length_append, List.length_reverse, List.length_map, List.length_cons, List.length_nil]; omega) | decide +kernel) ?_
  | with_reducible refine gt_tup rfl ?_
  | ((with_reducible show TK.Gts _ _ _ _ _ _); (first | apply gts_cons | apply gts_nil))
  | with_reducible refine ro_mul (by first | omega | decide) ?_
  | with_reducible refine ro_div (by first | omega | decide) ?_
  | with_reducible refine ro_mod (by first | omega | decide) ?_
  | (with_reducible refine ⟨_, rfl, ?_⟩)
  | (with_reducible refine ⟨_, _, rfl, ?_⟩)
  | (refine ⟨fun hb => ?_, fun hb => ?_⟩ <;> first | exact absurd hb (by decide) | (try simp only [decide_eq_true_eq, decide_eq_false_iff_not, Bool.false_eq_true, Bool.true_eq_false, reduceCtorEq, Bool.not_eq_true', Bool.not_eq_false', eq_self, not_true_eq_false, not_false_eq_true] at hb))
  | fail "stuck"))
local macro_rules | `(tactic| walk_at "s") => `(tactic| (first
  | with_reducible apply st_seq
  | with_reducible apply st_next
  | with_reducible apply st_asg
  | with_reducible apply st_ret
  | with_reducible apply st_retN
  | with_reducible apply st_if
  | with_reducible apply st_drop
  | with_reducible apply st_asgG
  | with_reducible apply st_par
  | with_reducible apply st_brk
  | with_reducible apply st_cont
  | walk_at "e"
  | fail "stuck"))
local macro_rules | `(tactic| walk_at "w") => `(tactic| (repeat first | exact wk_nil | apply wk_yes | apply wk_no))
local macro_rules | `(tactic| walk_at "len") => `(tactic| (intro ss μ R X h; first
  | (rcases h with ⟨_, rfl, _⟩ | ⟨_, _, _, rfl, _⟩ | ⟨_, _, rfl, _⟩ <;> rfl)
  | (rcases h with ⟨_, rfl, _⟩ | ⟨_, rfl, _⟩ <;> rfl)
  | (obtain ⟨_, rfl, _⟩ := h; rfl)
  | (obtain ⟨_, _, rfl, _⟩ := h; rfl)
  | (obtain ⟨_, _, _, rfl, _⟩ := h; rfl)
  | (obtain ⟨_, _, _, _, rfl, _⟩ := h; rfl)
  | (obtain ⟨_, _, _, _, _, rfl, _⟩ := h; rfl)
  | (obtain ⟨_, _, _, _, _, _, rfl, _⟩ := h; rfl)
  | (obtain ⟨_, _, _, _, _, _, _, rfl, _⟩ := h; rfl)
  | (obtain ⟨_, _, _, _, _, _, _, _, rfl, _⟩ := h; rfl)
  | (obtain ⟨_, _, _, _, _, _, _, _, _, rfl, _⟩ := h; rfl)))
local macro_rules | `(tactic| walk_at "t2") => `(tactic| (refine ev_tupS ?_; (repeat' walk_at "s"); refine ⟨by show 2 ≤ _; decide, ?_⟩; (repeat' walk_at "s")))

section
variable {P : Program} {w : World} {K : PySem.W.Frag} {mg : Str → Option Value} {base : Heap}

theorem fit_up : ∀ {n : Nat} {d : PyData}, Fit n d → Fit (n + 1) d
  | 0, _, h => h.elim
  | n + 1, .list xs, h => ⟨h.1, fun x hx => fit_up (h.2 x hx)⟩
  | n + 1, .tuple xs, h => ⟨h.1, fun x hx => fit_up (h.2 x hx)⟩
  | n + 1, .none, h => True.intro
  | n + 1, .bool _, h => True.intro
  | n + 1, .int _, h => True.intro
  | n + 1, .str _, h => True.intro
  | n + 1, .dict _, h => True.intro
theorem fit_two {n : Nat} {a b : PyData} (ha : Fit n a) (hb : Fit n b) : Fit (n + 1) (.list [a, b]) := ⟨by show 2 ≤ 1000; decide, fun x hx => by
  simp only [List.mem_cons, List.not_mem_nil, or_false] at hx
  rcases hx with rfl | rfl <;> assumption⟩
theorem fit_twoT {n : Nat} {a b : PyData} (ha : Fit n a) (hb : Fit n b) : Fit (n + 1) (.tuple [a, b]) := ⟨by show 2 ≤ 1000; decide, fun x hx => by
  simp only [List.mem_cons, List.not_mem_nil, or_false] at hx
  rcases hx with rfl | rfl <;> assumption⟩
theorem et_detM {F : Fr} {ρ : Rho} {μ : Mu} {tt : TT} {Ψ : Bool → Mu → Prop} {b0 : Bool} (M : Mu → Prop) (h : EvT F ρ μ tt fun b μ1 => b = b0 ∧ M μ1) (k : ∀ μ1, M μ1 → Ψ b0 μ1) : EvT F ρ μ tt Ψ := fun P μf hP σ H Q c q =>
  h P μf hP σ H Q c fun b μ' H' hb c' => by
    obtain ⟨rfl, hm⟩ := hb
    exact q _ _ H' (k μ' hm) c'
theorem root_ok {w : List Nat} (h : w.all okc = true) : (rootOf w).all okc = true := by
  unfold rootOf
  refine red_ok ?_
  rw [List.all_append, List.all_append, outer_ok h, take_ok (core_ok h), iv_ok (outer_ok h)]; rfl
theorem num_le (w : List Nat) : numOf w ≤ w.length := Nat.le_trans (Nat.div_le_self _ _) (core_len w)
theorem rep_ok {l : List Nat} (h : l.all okc = true) : ∀ n : Nat, (List.replicate n l).flatten.all okc = true
  | 0 => rfl
  | n + 1 => by rw [List.replicate_succ, List.flatten_cons, List.all_append, h, rep_ok h n]; rfl
theorem rep_len (l : List Nat) : ∀ n : Nat, (List.replicate n l).flatten.length = l.length * n
  | 0 => by simp
  | n + 1 => by rw [List.replicate_succ, List.flatten_cons, List.length_append, rep_len l n, Nat.mul_succ]; omega

theorem sc__law_twice : FnScope N__law_twice ["word", "args", "due", "named"] (defScope s__law_twice) := ⟨rfl, rfl, rfl, by decide +kernel, rfl, by decide +kernel, by decide +kernel⟩
theorem w__law_twice (T : Hk K mg) : Kn P w K mg base 9 "_law_twice" (defArgs s__law_twice) (defBody s__law_twice) (defScope s__law_twice) ["word", "args", "due", "named"] (A__law_twice K) := by
  obtain ⟨fd, F⟩ := T.dd__law_twice
  have h__law_ask := k__law_ask (P := P) (w := w) (base := base) T
  have h__law_same := k__law_same (P := P) (w := w) (base := base) T
  refine ⟨_, fd, T.g__law_twice, F, fn_ok F sc__law_twice (by walk_at "len") (fun cdv Ar outer s H E hr => ⟨_, (pss_one (ps_ret (pe_fn (E := noE) h__law_same hr (by decide) (by rfl) (fun _ => pass_no) (pa_cons (pe_lst (pa_cons (pe_fn (E := noE) h__law_ask hr (by decide) (by rfl) (fun _ => pass_no) (pa_cons (pv 0) (pa_cons (pv 1) (pa_cons (pv 3) pa_nil))) pk_nil) (pa_cons (pe_fn (E := noE) h__law_ask hr (by decide) (by rfl) (fun _ => pass_no) (pa_cons (pv 0) (pa_cons (pv 1) (pa_cons (pe_not (pv 3)) pa_nil))) pk_nil) pa_nil))) (pa_cons (pe_lst (pa_cons (pe_lst (pa_cons pe_str (pa_cons (pv 2) pa_nil))) (pa_cons (pe_lst (pa_cons pe_str (pa_cons (pv 2) pa_nil))) pa_nil))) pa_nil)) pk_nil))), ?_⟩)⟩
  intro P0 μ μf ss R X hA hX
  obtain ⟨wd, args, due, named, x, rfl, hf, hq, hR⟩ := hA
  repeat' walk_at "s"
  refine ev_lst ?_
  repeat' walk_at "s"
  refine ⟨rfl, rfl, wd, args, named, _, rfl, hq, ?_⟩
  repeat' walk_at "s"
  refine ⟨rfl, rfl, wd, args, _, _, rfl, hq, ?_⟩
  repeat' walk_at "s"
  refine ⟨[.list [st "told", x], .list [st "told", x]], rfl, by show 2 ≤ _; decide, ?_⟩
  repeat' walk_at "s"
  refine ev_lst ?_
  repeat' walk_at "s"
  refine ev_lst ?_
  repeat' walk_at "s"
  refine ⟨[st "told", due], rfl, by show 2 ≤ _; decide, ?_⟩
  repeat' walk_at "s"
  refine ev_lst ?_
  repeat' walk_at "s"
  refine ⟨[st "told", due], rfl, by show 2 ≤ _; decide, ?_⟩
  repeat' walk_at "s"
  refine ⟨[.list [st "told", due], .list [st "told", due]], rfl, by show 2 ≤ _; decide, ?_⟩
  repeat' walk_at "s"
  refine ⟨rfl, rfl, _, _, rfl, fit_two (fit_two True.intro (fit_up hf)) (fit_two True.intro (fit_up hf)), fun b hb => hR b (hb.trans ?_)⟩
  simp

theorem k__law_twice (T : Hk K mg) : Fnk P w K mg base 9 4 "_law_twice" [] (fun ss => A__law_twice K (permL [0, 1, 2, 3] N0 ss)) := by
  obtain ⟨f, fd, hm, F, G⟩ := w__law_twice (P := P) (w := w) (base := base) T
  exact ⟨f, hm, callee_of F G _ [0, 1, 2, 3] (fun kV doc pm an cdv ct us ws hu hw => match us, ws, hu, hw with | [a0, a1, a2, a3], [], _, _ => rfl)⟩

theorem sc__law_word_right : FnScope N__law_word_right ["box", "signed", "named"] (defScope s__law_word_right) := ⟨rfl, rfl, rfl, by decide +kernel, rfl, by decide +kernel, by decide +kernel⟩
theorem w__law_word_right (T : Hk K mg) : Kn P w K mg base 10 "_law_word_right" (defArgs s__law_word_right) (defBody s__law_word_right) (defScope s__law_word_right) ["box", "signed", "named"] (A__law_word_right K) := by
  obtain ⟨fd, F⟩ := T.dd__law_word_right
  have h__law_ask := k__law_ask (P := P) (w := w) (base := base) T
  have h__law_core := k__law_core (P := P) (w := w) (base := base) T
  have h__law_reduce := k__law_reduce (P := P) (w := w) (base := base) T
  have h__law_root := k__law_root (P := P) (w := w) (base := base) T
  have h__law_same := k__law_same (P := P) (w := w) (base := base) T
  have h__law_taken := k__law_taken (P := P) (w := w) (base := base) T
  have h__law_turn := k__law_turn (P := P) (w := w) (base := base) T
  have h__law_twice := k__law_twice (P := P) (w := w) (base := base) T
  have h__law_undo := k__law_undo (P := P) (w := w) (base := base) T
  refine ⟨_, fd, T.g__law_word_right, F, fn_ok F sc__law_word_right (by walk_at "len") (fun cdv Ar outer s H E hr => ⟨_, (pss_cons (ps_set (i := 3) sc__law_word_right.nd rfl (by first | exact Or.inl rfl | exact Or.inr rfl) (pe_fn (E := noE) h__law_reduce hr (by decide) (by rfl) (fun _ => pass_no) (pa_cons (pv 1) pa_nil) pk_nil))
    (pss_cons (ps_if (PW.pt (pw_or (pt_cmpR op_ne (pe_fn (E := noE) h__law_taken hr (by decide) (by rfl) (fun _ => pass_no) (pa_cons (pv 0) (pa_cons (pv 1) pa_nil)) pk_nil) (pv 3) (nomark _)) (pw_or1 (pt_not (pt_val (pe_fn (E := noE) h__law_twice hr (by decide) (by rfl) (fun _ => pass_no) (pa_cons pe_str (pa_cons (pe_lst (pa_cons (pv 1) pa_nil)) (pa_cons pe_bl (pa_cons (pv 2) pa_nil)))) pk_nil)))))) (pss_one (ps_ret pe_bl)) pss_nil)
    (pss_cons (ps_asg (pe_fn (E := noE) h__law_core hr (by decide) (by rfl) (fun _ => pass_no) (pa_cons (pv 3) pa_nil) pk_nil) (pg_tup rfl (pgs_cons (pg_name (i := 5) sc__law_word_right.nd rfl (by first | exact Or.inl rfl | exact Or.inr rfl)) (pgs_cons (pg_name (i := 6) sc__law_word_right.nd rfl (by first | exact Or.inl rfl | exact Or.inr rfl)) pgs_nil))))
    (pss_cons (ps_if (PW.pt (pw_or (PW.pt (pw_and (pt_cmpR op_ne (pv 6) pe_str (nomark _)) (pw_and (pt_cmpR op_gt (pe_callB (call_lenK (K := K)) (by rfl) T.n_len (by decide +kernel) (pa_cons (pv 6) pa_nil)) pe_int (nomark _)) (pw_and1 (pt_cmpR op_eq (pe_ix ix_str (pv 6) pe_int (fun _ _ => rfl)) (pe_fn (E := noE) h__law_turn hr (by decide) (by rfl) (fun _ => pass_no) (pa_cons (pe_ix ix_str (pv 6) (pe_un un_neg pe_int) (fun _ _ => rfl)) pa_nil) pk_nil) (nomark _)))))) (pw_or1 (pt_cmpR op_ne (pv 3) (pe_op op_add_str (pe_op op_add_str (pv 5) (pv 6)) (pe_fn (E := noE) h__law_undo hr (by decide) (by rfl) (fun _ => pass_no) (pa_cons (pv 5) pa_nil) pk_nil)) (nomark _))))) (pss_one (ps_ret pe_bl)) pss_nil)
    (pss_cons (ps_set (i := 4) sc__law_word_right.nd rfl (by first | exact Or.inl rfl | exact Or.inr rfl) (pe_fn (E := noE) h__law_undo hr (by decide) (by rfl) (fun _ => pass_no) (pa_cons (pv 3) pa_nil) pk_nil))
    (pss_cons (ps_for (passes_of rfl) rfl (pi_listKK (K := K) (pe_lst (pa_cons (pe_tup (pa_cons pe_str (pa_cons (pv 3) pa_nil))) (pa_cons (pe_tup (pa_cons pe_str (pa_cons (pv 4) pa_nil))) (pa_cons (pe_tup (pa_cons pe_str (pa_cons (pe_tup (pa_cons (pv 5) (pa_cons (pv 6) pa_nil))) pa_nil))) pa_nil))))) (pg_tup rfl (pgs_cons (pg_name (i := 7) sc__law_word_right.nd rfl (by first | exact Or.inl rfl | exact Or.inr rfl)) (pgs_cons (pg_name (i := 8) sc__law_word_right.nd rfl (by first | exact Or.inl rfl | exact Or.inr rfl)) pgs_nil)))
    (pss_cons (ps_if (pt_not (pt_val (pe_fn (E := noE) h__law_twice hr (by decide) (by rfl) (fun _ => pass_no) (pa_cons (pv 7) (pa_cons (pe_lst (pa_cons (pv 1) pa_nil)) (pa_cons (pv 8) (pa_cons (pv 2) pa_nil)))) pk_nil))) (pss_one (ps_ret pe_bl)) pss_nil)
    (pss_one (ps_set (i := 2) sc__law_word_right.nd rfl (by first | exact Or.inl rfl | exact Or.inr rfl) (pe_not (pv 2))))))
    (pss_cons (ps_if (PW.pt (pw_or (pt_not (pt_val (pe_fn (E := noE) h__law_twice hr (by decide) (by rfl) (fun _ => pass_no) (pa_cons pe_str (pa_cons (pe_lst (pa_cons (pv 1) (pa_cons (pv 4) pa_nil))) (pa_cons pe_str (pa_cons (pv 2) pa_nil)))) pk_nil))) (pw_or1 (pt_not (pt_val (pe_fn (E := noE) h__law_twice hr (by decide) (by rfl) (fun _ => pass_no) (pa_cons pe_str (pa_cons (pe_lst (pa_cons (pv 4) (pa_cons (pv 1) pa_nil))) (pa_cons pe_str (pa_cons (pe_not (pv 2)) pa_nil)))) pk_nil)))))) (pss_one (ps_ret pe_bl)) pss_nil)
    (pss_cons (ps_if (pt_cmpR op_eq (pv 3) pe_str (nomark _)) (pss_one (ps_ret (pe_fn (E := noE) h__law_same hr (by decide) (by rfl) (fun _ => pass_no) (pa_cons (pe_lst (pa_cons (pe_fn (E := noE) h__law_ask hr (by decide) (by rfl) (fun _ => pass_no) (pa_cons pe_str (pa_cons (pe_lst (pa_cons (pv 1) pa_nil)) (pa_cons (pv 2) pa_nil))) pk_nil) (pa_cons (pe_fn (E := noE) h__law_ask hr (by decide) (by rfl) (fun _ => pass_no) (pa_cons pe_str (pa_cons (pe_lst (pa_cons (pv 1) pa_nil)) (pa_cons (pe_not (pv 2)) pa_nil))) pk_nil) pa_nil))) (pa_cons (pe_op op_rep (pe_lst (pa_cons (pe_lst (pa_cons pe_str (pa_cons pe_non pa_nil))) pa_nil)) pe_int) pa_nil)) pk_nil))) pss_nil)
    (pss_cons (ps_asg (pe_fn (E := noE) h__law_root hr (by decide) (by rfl) (fun _ => pass_no) (pa_cons (pv 3) pa_nil) pk_nil) (pg_tup rfl (pgs_cons (pg_name (i := 9) sc__law_word_right.nd rfl (by first | exact Or.inl rfl | exact Or.inr rfl)) (pgs_cons (pg_name (i := 10) sc__law_word_right.nd rfl (by first | exact Or.inl rfl | exact Or.inr rfl)) pgs_nil))))
    (pss_cons (ps_if (PW.pt (pw_and (pt_cmpR op_ne (pe_fn (E := noE) h__law_reduce hr (by decide) (by rfl) (fun _ => pass_no) (pa_cons (pe_op op_repS (pv 9) (pv 10)) pa_nil) pk_nil) (pv 3) (nomark _)) (pw_and1 (pt_cmpR op_le (pe_op op_mul (pe_callB (call_lenK (K := K)) (by rfl) T.n_len (by decide +kernel) (pa_cons (pv 9) pa_nil)) (pv 10)) pe_int (nomark _))))) (pss_one (ps_ret pe_bl)) pss_nil)
    (pss_one (ps_ret (pe_fn (E := noE) h__law_twice hr (by decide) (by rfl) (fun _ => pass_no) (pa_cons pe_str (pa_cons (pe_lst (pa_cons (pv 1) pa_nil)) (pa_cons (pe_tup (pa_cons (pv 9) (pa_cons (pv 10) pa_nil))) (pa_cons (pv 2) pa_nil)))) pk_nil))))))))))))), ?_⟩)⟩
  intro P0 μ μf ss R X hA hX
  obtain ⟨p, k, n, l, named, μ0, rfl, hbx, hn, hl, hR⟩ := hA
  have h1 := good_len hl
  have h2 := red_len l
  have okl := good_ok hl
  have okw := red_ok okl
  have hol := outer_len (red l)
  have hcl := core_len (red l)
  repeat' walk_at "s"
  refine ⟨rfl, rfl, l, rfl, okl, by omega, ?_⟩
  refine st_seq (st_if (et_detM (b0 := false) (fun μ' => BoxAt μ0 k p (n + 100) μ') ?_ fun μ' hbx' => ⟨fun hb => (by cases hb), fun _ => ?_⟩))
  · repeat' walk_at "s"
    refine ⟨rfl, rfl, p, k, n, l, μ0, rfl, hbx, by omega, okl, by omega, fun μ' hbx' => ?_⟩
    have hb2 := hbx'.le (n' := n + 100) (by omega)
    repeat' walk_at "s"
    refine ev_lstS ?_
    repeat' walk_at "s"
    refine ⟨by show 1 ≤ _; decide, ?_⟩
    repeat' walk_at "s"
    refine ⟨rfl, rfl, _, _, .bool true, named, .bool true, rfl, True.intro, .isT hl, fun b hb => ?_⟩
    rw [hb.mpr rfl]
    repeat' walk_at "s"
    exact ⟨rfl, hb2⟩
  repeat' walk_at "s"
  refine ⟨rfl, rfl, red l, rfl, okw, by omega, ?_⟩
  have okc2 := core_ok okw
  have oko := outer_ok okw
  repeat' walk_at "e"
  refine st_seq (st_if (et_det (b0 := false) ?_ ⟨fun hb => (by cases hb), fun _ => st_next ?_⟩))
  · refine et_or (et_det (b0 := false) ?_ ⟨fun hb => (by cases hb), fun _ => ?_⟩)
    · repeat' walk_at "s"
      · have hne : coreOf (red l) ≠ [] := fun z => by rw [z] at hb; simp at hb
        have e0 : (coreOf (red l))[0]? = some ((coreOf (red l))[0]'(by omega)) := List.getElem?_eq_getElem _
        obtain ⟨d, hd⟩ : ∃ d, (coreOf (red l)).getLast? = some d := ⟨_, List.getLast?_eq_some_getLast hne⟩
        have okd : okc d = true := List.all_eq_true.mp okc2 _ (List.mem_of_getLast? hd)
        refine ro_ixS (ch := (coreOf (red l))[0]'(by omega)) (by omega) (by rw [atI_zero]; exact e0) ?_
        repeat' walk_at "s"
        refine ro_ixS (ch := d) (by omega) (by rw [atI_m1]; exact hd) ?_
        repeat' walk_at "s"
        refine ⟨rfl, rfl, [d], rfl, by simpa using okd, by show 1 ≤ _; decide, ?_⟩
        repeat' walk_at "s"
        refine ⟨?_, rfl⟩
        have hce := core_ends (w := red l) (by omega)
        rw [e0, hd] at hce
        refine decide_eq_false fun z => hce ?_
        injection z with z; rw [z]; rfl
      · exact ⟨rfl, rfl⟩
      · exact ⟨rfl, rfl⟩
    · repeat' walk_at "e"
      refine ⟨rfl, rfl, _, rfl, oko, by omega, ?_⟩
      have hil := iv_len (outerOf (red l))
      repeat' walk_at "e"
      exact ⟨by rw [core_split]; simp, rfl⟩
  refine st_seq (st_asg ?_)
  repeat' walk_at "e"
  refine ⟨rfl, rfl, red l, rfl, okw, by omega, ?_⟩
  repeat' walk_at "e"
  refine st_seq (st_for (ei_list (ev_lst ?_)))
  repeat' walk_at "e"
  refine ev_tup ?_
  repeat' walk_at "e"
  refine ⟨[st "reduced", .str (TK.Tx (red l))], rfl, by show 2 ≤ _; decide, ?_⟩
  repeat' walk_at "e"
  refine ev_tup ?_
  repeat' walk_at "e"
  refine ⟨[st "undone", .str (TK.Tx (iv (red l)))], rfl, by show 2 ≤ _; decide, ?_⟩
  repeat' walk_at "e"
  refine ev_tup ?_
  repeat' walk_at "e"
  refine ev_tup ?_
  repeat' walk_at "e"
  refine ⟨[.str (TK.Tx (outerOf (red l))), .str (TK.Tx (coreOf (red l)))], rfl, by show 2 ≤ _; decide, ?_⟩
  repeat' walk_at "e"
  refine ⟨[st "core", twoD (outerOf (red l)) (coreOf (red l))], rfl, by show 2 ≤ _; decide, ?_⟩
  repeat' walk_at "e"
  refine ⟨[.tuple [st "reduced", .str (TK.Tx (red l))], .tuple [st "undone", .str (TK.Tx (iv (red l)))], .tuple [st "core", twoD (outerOf (red l)) (coreOf (red l))]], rfl, by show 3 ≤ _; decide, ?_⟩
  repeat' walk_at "e"
  refine ⟨fun i ρ μ'' => ∃ nm : Bool, Wk ρ [some (.v (.ref p)), some (tx l), some (B nm), some (tx (red l)), some (tx (iv (red l))), some (tx (outerOf (red l))), some (tx (coreOf (red l))), none, none, none, none] ∧ μ'' = μ', ⟨named, by walk_at "w", rfl⟩, ?_, ?_⟩
  · rintro i s ρ μ'' hi ⟨nm, hw, rfl⟩
    have hm := List.mem_of_getElem? hi
    simp only [List.map_cons, List.map_nil, List.mem_cons, List.not_mem_nil, or_false] at hm
    refine gt_wk hw ?_
    rcases hm with rfl | rfl | rfl
    · repeat' walk_at "e"
      refine st_seq (st_if (et_det (b0 := false) ?_ ⟨fun hb => (by cases hb), fun _ => st_next ?_⟩))
      · repeat' walk_at "e"
        refine ev_lstS ?_
        repeat' walk_at "e"
        refine ⟨by show 1 ≤ _; decide, ?_⟩
        repeat' walk_at "e"
        refine ⟨rfl, rfl, _, _, .str (TK.Tx (red l)), nm, .str (TK.Tx (red l)), rfl, True.intro, .red hl, fun b hb => ?_⟩
        rw [hb.mpr rfl]
        repeat' walk_at "e"
        exact ⟨rfl, rfl⟩
      · repeat' walk_at "s"
        exact ⟨_, by walk_at "w", rfl⟩
    · repeat' walk_at "e"
      refine st_seq (st_if (et_det (b0 := false) ?_ ⟨fun hb => (by cases hb), fun _ => st_next ?_⟩))
      · repeat' walk_at "e"
        refine ev_lstS ?_
        repeat' walk_at "e"
        refine ⟨by show 1 ≤ _; decide, ?_⟩
        repeat' walk_at "e"
        refine ⟨rfl, rfl, _, _, .str (TK.Tx (iv (red l))), nm, .str (TK.Tx (iv (red l))), rfl, True.intro, .und hl, fun b hb => ?_⟩
        rw [hb.mpr rfl]
        repeat' walk_at "e"
        exact ⟨rfl, rfl⟩
      · repeat' walk_at "s"
        exact ⟨_, by walk_at "w", rfl⟩
    · repeat' walk_at "e"
      refine st_seq (st_if (et_det (b0 := false) ?_ ⟨fun hb => (by cases hb), fun _ => st_next ?_⟩))
      · repeat' walk_at "e"
        refine ev_lstS ?_
        repeat' walk_at "e"
        refine ⟨by show 1 ≤ _; decide, ?_⟩
        repeat' walk_at "e"
        refine ⟨rfl, rfl, _, _, twoD (outerOf (red l)) (coreOf (red l)), nm, twoD (outerOf (red l)) (coreOf (red l)), rfl, fit_twoT (n := 2) True.intro True.intro, .core hl, fun b hb => ?_⟩
        rw [hb.mpr rfl]
        repeat' walk_at "e"
        exact ⟨rfl, rfl⟩
      · repeat' walk_at "s"
        exact ⟨_, by walk_at "w", rfl⟩
  rintro ρ μ'' ⟨nm, hw, rfl⟩
  refine st_wk hw ?_
  have okb : good (iv (red l)) = true := by
    unfold good
    rw [iv_ok okw, iv_len, decide_eq_true (by omega)]; rfl
  refine st_seq (st_if (et_det (b0 := false) ?_ ⟨fun hb => (by cases hb), fun _ => st_next ?_⟩))
  · repeat' walk_at "e"
    refine ev_lstS ?_
    repeat' walk_at "e"
    refine ⟨by show 2 ≤ _; decide, ?_⟩
    repeat' walk_at "e"
    refine ⟨rfl, rfl, _, _, st "", nm, .str (TK.Tx (red (l ++ iv (red l)))), rfl, True.intro, .prod hl okb, fun b hb => ?_⟩
    rw [hb.mpr (by rw [prod1]; rfl)]
    repeat' walk_at "e"
    refine ev_lstS ?_
    repeat' walk_at "e"
    refine ⟨by show 2 ≤ _; decide, ?_⟩
    repeat' walk_at "e"
    refine ⟨rfl, rfl, _, _, st "", _, .str (TK.Tx (red (iv (red l) ++ l))), rfl, True.intro, .prod okb hl, fun b hb => ?_⟩
    rw [hb.mpr (by rw [prod2]; rfl)]
    repeat' walk_at "e"
    exact ⟨rfl, rfl⟩
  refine st_seq (st_if (et_det (b0 := decide (red l = [])) ?_ ⟨fun hb => ?_, fun hb => st_next ?_⟩))
  · repeat' walk_at "e"
    exact ⟨rfl, rfl⟩
  · have he : red l = [] := of_decide_eq_true hb
    repeat' walk_at "s"
    refine ev_lst ?_
    repeat' walk_at "e"
    refine ev_lstS ?_
    repeat' walk_at "e"
    refine ⟨by show 1 ≤ _; decide, ?_⟩
    repeat' walk_at "e"
    refine ⟨rfl, rfl, _, _, nm, _, rfl, .rootE hl he, ?_⟩
    repeat' walk_at "e"
    refine ev_lstS ?_
    repeat' walk_at "e"
    refine ⟨by show 1 ≤ _; decide, ?_⟩
    repeat' walk_at "e"
    refine ⟨rfl, rfl, _, _, _, _, rfl, .rootE hl he, ?_⟩
    repeat' walk_at "e"
    refine ⟨[.list [st "empty", .none], .list [st "empty", .none]], rfl, by show 2 ≤ _; decide, ?_⟩
    repeat' walk_at "e"
    refine ev_lst ?_
    repeat' walk_at "e"
    refine ev_lst ?_
    repeat' walk_at "e"
    refine ⟨[st "empty", .none], rfl, by show 2 ≤ _; decide, ?_⟩
    repeat' walk_at "e"
    refine ⟨[.list [st "empty", .none]], rfl, by show 1 ≤ _; decide, ?_⟩
    repeat' walk_at "e"
    refine ro_rep (by decide) (by decide) (by decide) ?_
    repeat' walk_at "e"
    refine ⟨rfl, rfl, _, _, rfl, fit_two (n := 5) (fit_two True.intro True.intro) (fit_two True.intro True.intro), fun b hb => ?_⟩
    rw [hb.mpr rfl]
    exact hR _ hbx'
  · have hne : red l ≠ [] := of_decide_eq_false hb
    have hrl := root_len (red l)
    have hrk := root_ok okw
    have hnl := num_le (red l)
    have hmul : (rootOf (red l)).length * numOf (red l) ≤ 60 * 60 := Nat.mul_le_mul (by omega) (by omega)
    refine st_seq (st_asgG ?_)
    repeat' walk_at "e"
    refine ⟨rfl, rfl, red l, rfl, okw, by omega, core_ne hne, ?_⟩
    repeat' walk_at "e"
    refine st_seq (st_if (et_det (b0 := false) ?_ ⟨fun hb => (by cases hb), fun _ => st_next ?_⟩))
    · repeat' walk_at "e"
      refine ro_repS (by omega) (by omega) (by rw [Int.toNat_natCast]; omega) ?_
      rw [Int.toNat_natCast]
      repeat' walk_at "e"
      refine ⟨rfl, rfl, _, rfl, rep_ok hrk _, by rw [rep_len]; omega, ?_⟩
      rw [root_pow hne]
      repeat' walk_at "e"
      exact ⟨rfl, rfl⟩
    · repeat' walk_at "s"
      refine ev_lstS ?_
      repeat' walk_at "e"
      refine ⟨by show 1 ≤ _; decide, ?_⟩
      repeat' walk_at "e"
      refine ev_tup ?_
      repeat' walk_at "e"
      refine ⟨[.str (TK.Tx (rootOf (red l))), .int (numOf (red l))], rfl, by show 2 ≤ _; decide, ?_⟩
      repeat' walk_at "e"
      refine ⟨rfl, rfl, _, _, rootD (red l), nm, rootD (red l), rfl, fit_twoT (n := 2) True.intro True.intro, .root hl hne, fun b hb => ?_⟩
      rw [hb.mpr rfl]
      exact hR _ hbx'

theorem k__law_word_right (T : Hk K mg) : Fnk P w K mg base 10 3 "_law_word_right" [] (fun ss => A__law_word_right K (permL [0, 1, 2] N0 ss)) := by
  obtain ⟨f, fd, hm, F, G⟩ := w__law_word_right (P := P) (w := w) (base := base) T
  exact ⟨f, hm, callee_of F G _ [0, 1, 2] (fun kV doc pm an cdv ct us ws hu hw => match us, ws, hu, hw with | [a0, a1, a2], [], _, _ => rfl)⟩

end
end K

namespace K
open PySem PySem.Spec PyProof.Rows L2 TK

local macro_rules | `(tactic| walk_at "v") => `(tactic| ((with_reducible refine ev_var (s := ?sv) ?hv ?kv); (case hv => exact rfl)))
set_option hygiene false
local macro_rules | `(tactic| walk_at "e") => `(tactic| (first
  | walk_at "v"
  | with_reducible apply ev_ci
  | with_reducible apply ev_cb
  | with_reducible apply ev_cn
  | with_reducible apply ev_cs
  | with_reducible apply ev_cv
  | with_reducible apply ev_op
  | with_reducible apply ev_un
  | with_reducible apply ev_CB
  | with_reducible apply ev_bm0
  | with_reducible apply ev_bm
  | with_reducible apply ev_m0
  | with_reducible apply ev_m1
  | with_reducible apply ev_sl
  | with_reducible apply ev_notV
  | with_reducible apply ev_andV
  | with_reducible apply ev_orV
  | with_reducible apply ev_if
  | with_reducible apply ev_revS
  | with_reducible apply ev_call
  | with_reducible refine ev_callE X (fun σ C fs μ' d H' x c => hX _ _ _ _ _ x (up_raise c)) ?_
  | with_reducible apply et_test
  | with_reducible apply et_B
  | with_reducible apply et_not
  | with_reducible apply et_and
  | with_reducible apply et_or
  | with_reducible apply ea_nil
  | with_reducible apply ea_cons
  | with_reducible apply eo_none
  | with_reducible apply eo_some
  | with_reducible apply ro_eqI
  | with_reducible apply ro_neI
  | with_reducible apply ro_eqT
  | with_reducible apply ro_neT
  | with_reducible apply ro_eqB
  | with_reducible apply ro_eqS
  | with_reducible apply ro_neS
  | with_reducible apply ro_neB
  | with_reducible apply ro_I
  | with_reducible apply ro_IB
  | with_reducible apply ru_I
  | with_reducible apply rc_abs
  | with_reducible apply rc_int
  | with_reducible apply gt_name
  | with_reducible apply et_yes
  | with_reducible apply ro_isB
  | with_reducible apply ro_isNn
  | with_reducible apply ro_isNb
  | with_reducible apply ro_isNi
  | with_reducible apply ro_isNs
  | with_reducible apply ro_isNl
  | with_reducible apply ro_isNu
  | with_reducible apply ro_isNv
  | with_reducible apply ro_notNn
  | with_reducible apply ro_notNb
  | with_reducible apply ro_notNi
  | with_reducible apply ro_notNs
  | with_reducible apply ro_notNl
  | with_reducible apply ro_notNu
  | with_reducible apply ro_notNv
  | with_reducible refine rc_isiN (b := true) (by decide +kernel) ?_
  | with_reducible refine rc_isiN (b := false) (by decide +kernel) ?_
  | with_reducible refine rc_isiB (b := true) (by decide +kernel) ?_
  | with_reducible refine rc_isiB (b := false) (by decide +kernel) ?_
  | with_reducible refine rc_isiI (b := true) (by decide +kernel) ?_
  | with_reducible refine rc_isiI (b := false) (by decide +kernel) ?_
  | with_reducible refine rc_isiS (b := true) (by decide +kernel) ?_
  | with_reducible refine rc_isiS (b := false) (by decide +kernel) ?_
  | with_reducible refine rc_isiL (b := true) (by decide +kernel) ?_
  | with_reducible refine rc_isiL (b := false) (by decide +kernel) ?_
  | with_reducible refine rc_isiU (b := true) (by decide +kernel) ?_
  | with_reducible refine rc_isiU (b := false) (by decide +kernel) ?_
  | with_reducible apply gt_setL
  | with_reducible apply gt_setD
  | with_reducible apply ev_din
  | with_reducible refine rc_lenT (by first | omega | (simp only [List.length_take, List.length_drop, List.length_append, List.length_reverse, List.length_map, List.length_cons, List.length_nil]; omega) | decide +kernel) ?_
  | with_reducible apply rc_lenL
  | with_reducible apply rc_lenU
  | with_reducible refine rs_str (by first | omega | (simp only [List.length_take, List.length_drop, List.length_append, List.length_reverse, List.length_map, List.length_cons, List.length_nil]; omega) | decide +kernel) ?_
  | with_reducible refine ro_catT (by first | omega | (simp only [List.length_take, List.length_drop, List.length_append, List.length_reverse, List.length_map, List.length_cons, List.length_nil]; omega) | decide +kernel) ?_
  | with_reducible refine gt_tup rfl ?_
  | ((with_reducible show TK.Gts _ _ _ _ _ _); (first | apply gts_cons | apply gts_nil))
  | with_reducible refine ro_mul (by first | omega | decide) ?_
  | with_reducible refine ro_div (by first | omega | decide) ?_
  | with_reducible refine ro_mod (by first | omega | decide) ?_
  | (with_reducible refine ⟨_, rfl, ?_⟩)
  | (with_reducible refine ⟨_, _, rfl, ?_⟩)
  | (refine ⟨fun hb => ?_, fun hb => ?_⟩ <;> first | exact absurd hb (by decide) | (try simp only [decide_eq_true_eq, decide_eq_false_iff_not, Bool.false_eq_true, Bool.true_eq_false, reduceCtorEq, Bool.not_eq_true', Bool.not_eq_false', eq_self, not_true_eq_false, not_false_eq_true] at hb))
  | fail "stuck"))
local macro_rules | `(tactic| walk_at "s") => `(tactic| (first
  | with_reducible apply st_seq
  | with_reducible apply st_next
  | with_reducible apply st_asg
  | with_reducible apply st_ret
  | with_reducible apply st_retN
  | with_reducible apply st_if
  | with_reducible apply st_drop
  | with_reducible apply st_asgG
  | with_reducible apply st_par
  | with_reducible apply st_brk
  | with_reducible apply st_cont
  | walk_at "e"
  | fail "stuck"))
local macro_rules | `(tactic| walk_at "w") => `(tactic| (repeat first | exact wk_nil | apply wk_yes | apply wk_no))
local macro_rules | `(tactic| walk_at "len") => `(tactic| (intro ss μ R X h; first
  | (rcases h with ⟨_, rfl, _⟩ | ⟨_, _, _, rfl, _⟩ | ⟨_, _, rfl, _⟩ <;> rfl)
  | (rcases h with ⟨_, rfl, _⟩ | ⟨_, rfl, _⟩ <;> rfl)
  | (obtain ⟨_, rfl, _⟩ := h; rfl)
  | (obtain ⟨_, _, rfl, _⟩ := h; rfl)
  | (obtain ⟨_, _, _, rfl, _⟩ := h; rfl)
  | (obtain ⟨_, _, _, _, rfl, _⟩ := h; rfl)
  | (obtain ⟨_, _, _, _, _, rfl, _⟩ := h; rfl)
  | (obtain ⟨_, _, _, _, _, _, rfl, _⟩ := h; rfl)
  | (obtain ⟨_, _, _, _, _, _, _, rfl, _⟩ := h; rfl)
  | (obtain ⟨_, _, _, _, _, _, _, _, rfl, _⟩ := h; rfl)
  | (obtain ⟨_, _, _, _, _, _, _, _, _, rfl, _⟩ := h; rfl)))
local macro_rules | `(tactic| walk_at "t2") => `(tactic| (refine ev_tupS ?_; (repeat' walk_at "s"); refine ⟨by show 2 ≤ _; decide, ?_⟩; (repeat' walk_at "s")))

section
variable {P : Program} {w : World} {K : PySem.W.Frag} {mg : Str → Option Value} {base : Heap}

def carZ (l m : List Nat) (t : Nat) : List Nat := red (outerOf (red l) ++ red (iv ((coreOf (red m)).take t)) ++ red (iv (outerOf (red m))))
theorem turn_some {c d : List Nat} {t : Nat} (h : turnOf c d = some t) : c = d.drop t ++ d.take t := by
  unfold turnOf at h
  split at h
  · rename_i hl
    unfold fstAt at h
    have h2 := (List.find?_range_eq_some.mp h).1
    unfold atB at h2
    rw [Bool.and_eq_true, decide_eq_true_eq, beq_iff_eq] at h2
    obtain ⟨e, hle⟩ := h2
    rw [List.length_append] at hle
    have ht : t ≤ d.length := by omega
    rw [List.drop_append_of_le_length ht, hl, List.take_append, List.length_drop, List.take_of_length_le (by rw [List.length_drop]; omega)] at e
    rw [← e]
    congr 2; omega
  · cases h
theorem car_conj {l m : List Nat} {t : Nat} (h : turnOf (coreOf (red l)) (coreOf (red m)) = some t) : red (carZ l m t ++ m ++ iv (carZ l m t)) = red l := by
  have hc := turn_some h
  have e1 : E (carZ l m t) (outerOf (red l) ++ iv ((coreOf (red m)).take t) ++ iv (outerOf (red m))) :=
    (E.red _).symm.trans (E.app (E.app E.rfl (E.red _).symm) (E.red _).symm)
  have e2 : E m (outerOf (red m) ++ ((coreOf (red m)).take t ++ (coreOf (red m)).drop t) ++ iv (outerOf (red m))) := by
    rw [List.take_append_drop, core_split]; exact E.red m
  have e3 := E.app (E.app e1 e2) (E.iv e1)
  have e4 := red_of_E (e3.trans car_E)
  rw [e4, ← hc, core_split, red_red]
theorem carZ_ok {l m : List Nat} (t : Nat) (h1 : l.all okc = true) (h2 : m.all okc = true) : (carZ l m t).all okc = true := by
  unfold carZ
  refine red_ok ?_
  rw [List.all_append, List.all_append, outer_ok (red_ok h1), red_ok (iv_ok (take_ok (core_ok (red_ok h2)) _)), red_ok (iv_ok (outer_ok (red_ok h2)))]; rfl
theorem carZ_len (l m : List Nat) (t : Nat) : (carZ l m t).length ≤ l.length + m.length + m.length := by
  unfold carZ
  refine Nat.le_trans (red_len _) ?_
  have a1 := red_len l
  have a2 := red_len m
  have a3 := outer_len (red l)
  have a4 := outer_len (red m)
  have a5 := core_len (red m)
  have a6 := red_len (iv ((coreOf (red m)).take t))
  have a7 := red_len (iv (outerOf (red m)))
  rw [iv_len] at a6 a7
  rw [List.length_take] at a6
  simp only [List.length_append]
  omega
theorem carD_none {l m : List Nat} (h : turnOf (coreOf (red l)) (coreOf (red m)) = none) : carryD l m = .none := by unfold carryD; rw [h]
theorem carD_some {l m : List Nat} {t : Nat} (h : turnOf (coreOf (red l)) (coreOf (red m)) = some t) : carryD l m = .str (TK.Tx (carZ l m t)) := by unfold carryD; rw [h]; rfl
theorem in_two (a b c : List Nat) : inV (vOf (.str (TK.Tx a))) ([.str (TK.Tx b), .str (TK.Tx c)].map vOf) = decide (a = b ∨ a = c) := by
  have e : ∀ x y : List Nat, eqV (vOf (.str (TK.Tx x))) (vOf (.str (TK.Tx y))) = decide (y = x) := by
    intro x y
    show ((TK.Tx x) == (TK.Tx y)) = decide (y = x)
    by_cases h : y = x
    · rw [h, decide_eq_true rfl]; exact beq_self_eq_true _
    · rw [decide_eq_false h]
      exact beq_eq_false_iff_ne.mpr fun z => h (tx_inj z).symm
  simp only [List.map_cons, List.map_nil, inV, List.any_cons, List.any_nil, e, Bool.or_false]
  by_cases h1 : a = b <;> by_cases h2 : a = c <;> simp [h1, h2]

theorem sc__law_two_right : FnScope N__law_two_right ["one", "other", "named"] (defScope s__law_two_right) := ⟨rfl, rfl, rfl, by decide +kernel, rfl, by decide +kernel, by decide +kernel⟩
theorem w__law_two_right (T : Hk K mg) : Kn P w K mg base 10 "_law_two_right" (defArgs s__law_two_right) (defBody s__law_two_right) (defScope s__law_two_right) ["one", "other", "named"] (A__law_two_right K) := by
  obtain ⟨fd, F⟩ := T.dd__law_two_right
  have h__law_ask := k__law_ask (P := P) (w := w) (base := base) T
  have h__law_core := k__law_core (P := P) (w := w) (base := base) T
  have h__law_reduce := k__law_reduce (P := P) (w := w) (base := base) T
  have h__law_root := k__law_root (P := P) (w := w) (base := base) T
  have h__law_same := k__law_same (P := P) (w := w) (base := base) T
  have h__law_twice := k__law_twice (P := P) (w := w) (base := base) T
  have h__law_undo := k__law_undo (P := P) (w := w) (base := base) T
  refine ⟨_, fd, T.g__law_two_right, F, fn_ok F sc__law_two_right (by walk_at "len") (fun cdv Ar outer s H E hr => ⟨_, (pss_cons (ps_par (i := 6) (j := 7) (by rfl) sc__law_two_right.nd rfl rfl (by decide) rfl rfl (pa_cons (pe_fn (E := noE) h__law_reduce hr (by decide) (by rfl) (fun _ => pass_no) (pa_cons (pv 0) pa_nil) pk_nil) (pa_cons (pe_fn (E := noE) h__law_reduce hr (by decide) (by rfl) (fun _ => pass_no) (pa_cons (pv 1) pa_nil) pk_nil) pa_nil)) (by rfl))
    (pss_cons (ps_if (pt_not (pt_val (pe_fn (E := noE) h__law_twice hr (by decide) (by rfl) (fun _ => pass_no) (pa_cons pe_str (pa_cons (pe_lst (pa_cons (pv 0) (pa_cons (pv 1) pa_nil))) (pa_cons (pe_fn (E := noE) h__law_reduce hr (by decide) (by rfl) (fun _ => pass_no) (pa_cons (pe_op op_add_str (pv 0) (pv 1)) pa_nil) pk_nil) (pa_cons (pv 2) pa_nil)))) pk_nil))) (pss_one (ps_ret pe_bl)) pss_nil)
    (pss_cons (ps_par (i := 8) (j := 9) (by rfl) sc__law_two_right.nd rfl rfl (by decide) rfl rfl (pa_cons (pe_ix (ix_tupK (K := K)) (pe_fn (E := noE) h__law_core hr (by decide) (by rfl) (fun _ => pass_no) (pa_cons (pv 6) pa_nil) pk_nil) pe_int (fun _ _ => rfl)) (pa_cons (pe_ix (ix_tupK (K := K)) (pe_fn (E := noE) h__law_core hr (by decide) (by rfl) (fun _ => pass_no) (pa_cons (pv 7) pa_nil) pk_nil) pe_int (fun _ _ => rfl)) pa_nil)) (by rfl))
    (pss_cons (ps_set (i := 3) sc__law_two_right.nd rfl (by first | exact Or.inl rfl | exact Or.inr rfl) (pe_and (pe_cmpR op_eq (pe_callB (call_lenK (K := K)) (by rfl) T.n_len (by decide +kernel) (pa_cons (pv 8) pa_nil)) (pe_callB (call_lenK (K := K)) (by rfl) T.n_len (by decide +kernel) (pa_cons (pv 9) pa_nil)) (nomark _)) (pe_one (pe_cmpR op_in_str (pv 8) (pe_op op_add_str (pv 9) (pv 9)) (by rfl)))))
    (pss_cons (ps_set (i := 4) sc__law_two_right.nd rfl (by first | exact Or.inl rfl | exact Or.inr rfl) (pe_fn (E := noE) h__law_ask hr (by decide) (by rfl) (fun _ => pass_no) (pa_cons pe_str (pa_cons (pe_lst (pa_cons (pv 0) (pa_cons (pv 1) pa_nil))) (pa_cons (pv 2) pa_nil))) pk_nil))
    (pss_cons (ps_if (PW.pt (pw_or (pt_cmpR op_ne (pe_ix (ix_listK (K := K)) (pv 4) pe_int (fun _ _ => rfl)) pe_str (nomark _)) (pw_or (pt_cmpR op_ne (pe_cmpR op_notN (pe_ix (ix_listK (K := K)) (pv 4) pe_int (fun _ _ => rfl)) pe_non (nomark _)) (pv 3) (nomark _)) (pw_or1 (pt_not (pt_val (pe_fn (E := noE) h__law_same hr (by decide) (by rfl) (fun _ => pass_no) (pa_cons (pe_fn (E := noE) h__law_ask hr (by decide) (by rfl) (fun _ => pass_no) (pa_cons pe_str (pa_cons (pe_lst (pa_cons (pv 0) (pa_cons (pv 1) pa_nil))) (pa_cons (pe_not (pv 2)) pa_nil))) pk_nil) (pa_cons (pv 4) pa_nil)) pk_nil))))))) (pss_one (ps_ret pe_bl)) pss_nil)
    (pss_cons (ps_if (pt_val (pv 3)) (pss_cons (ps_set (i := 10) sc__law_two_right.nd rfl (by first | exact Or.inl rfl | exact Or.inr rfl) (pe_ix (ix_listK (K := K)) (pv 4) pe_int (fun _ _ => rfl)))
    (pss_one (ps_if (PW.pt (pw_or (pt_not (pt_val (pe_callB (call_isiKK (K := K)) (by rfl) T.n_isinstance (by decide +kernel) (pa_cons (pv 10) (pa_cons (pe_bltn (v := .ty "str") (by rfl) T.n_str (by decide +kernel) rfl) pa_nil))))) (pw_or (pt_cmpR (op_neDK (K := K) hr.units) (pe_lc (own := [("sign", 11)]) rfl sc__law_two_right.nd (pi_str (pv 10)) (blkOk_by (own := [("sign", 11)]) (N := N__law_two_right) (sc := defScope s__law_two_right) (by decide +kernel)) (fun _ _ _ _ _ => (pg_name (i := 11) sc__law_two_right.nd rfl (by first | exact Or.inl rfl | exact Or.inr rfl))) (fun _ _ _ _ _ => (pts_one (pt_cmpR op_notIn_sign (pv 11) pe_str (by rfl)))) (fun _ _ _ _ _ => (pv 11))) (pe_lst pa_nil) (nomark _)) (pw_or (pt_cmpR op_ne (pe_fn (E := noE) h__law_reduce hr (by decide) (by rfl) (fun _ => pass_no) (pa_cons (pv 10) pa_nil) pk_nil) (pv 10) (nomark _)) (pw_or1 (pt_cmpR op_ne (pe_fn (E := noE) h__law_reduce hr (by decide) (by rfl) (fun _ => pass_no) (pa_cons (pe_op op_add_str (pe_op op_add_str (pv 10) (pv 1)) (pe_fn (E := noE) h__law_undo hr (by decide) (by rfl) (fun _ => pass_no) (pa_cons (pv 10) pa_nil) pk_nil)) pa_nil) pk_nil) (pv 6) (nomark _))))))) (pss_one (ps_ret pe_bl)) pss_nil))) pss_nil)
    (pss_cons (ps_set (i := 5) sc__law_two_right.nd rfl (by first | exact Or.inl rfl | exact Or.inr rfl) (pe_cmpR op_eq (pe_fn (E := noE) h__law_reduce hr (by decide) (by rfl) (fun _ => pass_no) (pa_cons (pe_op op_add_str (pv 0) (pv 1)) pa_nil) pk_nil) (pe_fn (E := noE) h__law_reduce hr (by decide) (by rfl) (fun _ => pass_no) (pa_cons (pe_op op_add_str (pv 1) (pv 0)) pa_nil) pk_nil) (nomark _)))
    (pss_cons (ps_if (PW.pt (pw_or (pt_cmpR op_eq (pv 6) pe_str (nomark _)) (pw_or1 (pt_cmpR op_eq (pv 7) pe_str (nomark _))))) (pss_one (ps_ret (pv 5))) pss_nil)
    (pss_one (ps_ret (pe_cmpR op_eq (pv 5) (pe_cmpR (op_in_seqK (K := K)) (pe_ix (ix_tupK (K := K)) (pe_fn (E := noE) h__law_root hr (by decide) (by rfl) (fun _ => pass_no) (pa_cons (pv 6) pa_nil) pk_nil) pe_int (fun _ _ => rfl)) (pe_lst (pa_cons (pe_ix (ix_tupK (K := K)) (pe_fn (E := noE) h__law_root hr (by decide) (by rfl) (fun _ => pass_no) (pa_cons (pv 7) pa_nil) pk_nil) pe_int (fun _ _ => rfl)) (pa_cons (pe_fn (E := noE) h__law_undo hr (by decide) (by rfl) (fun _ => pass_no) (pa_cons (pe_ix (ix_tupK (K := K)) (pe_fn (E := noE) h__law_root hr (by decide) (by rfl) (fun _ => pass_no) (pa_cons (pv 7) pa_nil) pk_nil) pe_int (fun _ _ => rfl)) pa_nil) pk_nil) pa_nil))) (by rfl)) (nomark _))))))))))))), ?_⟩)⟩
  intro P0 μ μf ss R X hA hX
  obtain ⟨l, m, named, rfl, hl, hm, hR⟩ := hA
  have h1 := good_len hl
  have h2 := red_len l
  have okl := good_ok hl
  have okw := red_ok okl
  have h3 := good_len hm
  have h4 := red_len m
  have okm := good_ok hm
  have okv := red_ok okm
  have okp : (l ++ m).all okc = true := by rw [List.all_append, okl, okm]; rfl
  have okq : (m ++ l).all okc = true := by rw [List.all_append, okl, okm]; rfl
  have hlp : (l ++ m).length ≤ 120 := by rw [List.length_append]; omega
  have hlq : (m ++ l).length ≤ 120 := by rw [List.length_append]; omega
  have hcl := core_len (red l)
  have hcm := core_len (red m)
  refine st_seq (st_par ?_)
  repeat' walk_at "e"
  refine ⟨rfl, rfl, l, rfl, okl, by omega, ?_⟩
  repeat' walk_at "e"
  refine ⟨rfl, rfl, m, rfl, okm, by omega, ?_⟩
  repeat' walk_at "e"
  refine st_seq (st_if (et_det (b0 := false) ?_ ⟨fun hb => (by cases hb), fun _ => st_next ?_⟩))
  · repeat' walk_at "e"
    refine ev_lstS ?_
    repeat' walk_at "e"
    refine ⟨by show 2 ≤ _; decide, ?_⟩
    repeat' walk_at "e"
    refine ⟨rfl, rfl, _, rfl, okp, by omega, ?_⟩
    repeat' walk_at "e"
    refine ⟨rfl, rfl, _, _, .str (TK.Tx (red (l ++ m))), named, .str (TK.Tx (red (l ++ m))), rfl, True.intro, .prod hl hm, fun b hb => ?_⟩
    rw [hb.mpr rfl]
    repeat' walk_at "e"
    exact ⟨rfl, rfl⟩
  refine st_seq (st_par ?_)
  repeat' walk_at "e"
  refine ⟨rfl, rfl, red l, rfl, okw, by omega, ?_⟩
  repeat' walk_at "e"
  refine ro_ixT (d := .str (TK.Tx (coreOf (red l)))) (by rfl) ?_
  repeat' walk_at "e"
  refine ⟨rfl, rfl, red m, rfl, okv, by omega, ?_⟩
  repeat' walk_at "e"
  refine ro_ixT (d := .str (TK.Tx (coreOf (red m)))) (by rfl) ?_
  repeat' walk_at "e"
  refine st_seq (st_asg (ev_det (s0 := B (turnOf (coreOf (red l)) (coreOf (red m))).isSome) ?_ ?_))
  · repeat' walk_at "e"
    · have e : (coreOf (red l)).length = (coreOf (red m)).length := by omega
      refine ro_inT ⟨?_, rfl⟩
      unfold turnOf
      rw [if_pos e]
    · have e : ¬ (coreOf (red l)).length = (coreOf (red m)).length := by omega
      refine ⟨?_, rfl⟩
      unfold turnOf
      rw [if_neg e]; rfl
  refine st_seq (st_asg ?_)
  repeat' walk_at "e"
  refine ev_lstS ?_
  repeat' walk_at "e"
  refine ⟨by show 2 ≤ _; decide, ?_⟩
  repeat' walk_at "e"
  refine ⟨rfl, rfl, _, _, named, _, rfl, .car hl hm, ?_⟩
  refine st_seq (st_if (et_det (b0 := false) ?_ ⟨fun hb => (by cases hb), fun _ => st_next ?_⟩))
  · repeat' walk_at "e"
    refine ro_ixL (d := st "told") (by rfl) ?_
    repeat' walk_at "e"
    refine ro_ixL (d := carryD l m) (by rfl) ?_
    repeat' walk_at "e"
    refine ro_notN (b := !(turnOf (coreOf (red l)) (coreOf (red m))).isSome) ?_ ?_
    · cases et : turnOf (coreOf (red l)) (coreOf (red m)) with
      | none => rw [carD_none et]; rfl
      | some t => rw [carD_some et]; rfl
    rw [Bool.not_not]
    repeat' walk_at "e"
    · rw [bne_self_eq_false] at hb; cases hb
    · refine ev_lstS ?_
      repeat' walk_at "e"
      refine ⟨by show 2 ≤ _; decide, ?_⟩
      repeat' walk_at "e"
      refine ⟨rfl, rfl, _, _, _, _, rfl, .car hl hm, ?_⟩
      repeat' walk_at "e"
      refine ⟨rfl, rfl, _, _, rfl, fit_two (n := 5) True.intro (by cases et : turnOf (coreOf (red l)) (coreOf (red m)) with
        | none => rw [carD_none et]; exact True.intro
        | some t => rw [carD_some et]; exact True.intro), fun b hb => ?_⟩
      rw [hb.mpr rfl]
      repeat' walk_at "e"
      exact ⟨rfl, rfl⟩
  refine st_seq (st_N (fun ρ μ' => Wk ρ [some (tx l), some (tx m), some (B named), none, none, none, some (tx (red l)), some (tx (red m)), none, none, none, none] ∧ μ' = μ) (st_if (et_det (b0 := (turnOf (coreOf (red l)) (coreOf (red m))).isSome) ?_ ⟨fun hb => ?_, fun hb => st_next ⟨by walk_at "w", rfl⟩⟩)) ?_)
  · repeat' walk_at "e"
    exact ⟨rfl, rfl⟩
  · obtain ⟨t, et⟩ := Option.isSome_iff_exists.mp hb
    have hzl := carZ_len l m t
    have hzo := carZ_ok (l := l) (m := m) t okl okm
    refine st_seq (st_asg ?_)
    repeat' walk_at "e"
    refine ro_ixL (d := carryD l m) (by rfl) ?_
    rw [carD_some et]
    refine st_if (et_det (b0 := false) ?_ ⟨fun hb => (by cases hb), fun _ => st_next ⟨by walk_at "w", rfl⟩⟩)
    repeat' walk_at "e"
    refine ev_lcSel (α := Nat) (ei_str (ev_var rfl ⟨carZ l m t, rfl, carZ l m t, fun c => tx [c], fun c => !decide (c ∈ cs "abcABC"), fun c => .str (TK.Tx [c]), rfl, by omega, fun c hc => gc_name (by decide) ?_, ?_⟩))
    · repeat' walk_at "e"
      refine ro_notInS ⟨_, rfl, rfl, rfl, fun _ => ?_⟩
      repeat' walk_at "e"
      exact ⟨rfl, rfl⟩
    have ef : (carZ l m t).filter (fun c => !decide (c ∈ cs "abcABC")) = [] := by
      rw [List.filter_eq_nil_iff]
      intro c hc
      have h := List.all_eq_true.mp hzo c hc
      have e : cs "abcABC" = [97, 98, 99, 65, 66, 67] := by decide +kernel
      rw [e]
      unfold okc at h
      rw [h]; simp
    rw [ef]
    refine ev_lst (ea_nil ⟨[], rfl, by decide, ro_neD shaped_nil shaped_nil ?_⟩)
    rw [List.map_nil, eqv_nilR]
    repeat' walk_at "e"
    refine ⟨rfl, rfl, _, rfl, hzo, by omega, ?_⟩
    rw [show red (carZ l m t) = carZ l m t from red_red _]
    repeat' walk_at "e"
    refine ⟨rfl, rfl, _, rfl, hzo, by omega, ?_⟩
    have hil := iv_len (carZ l m t)
    repeat' walk_at "e"
    refine ⟨rfl, rfl, _, rfl, ?_, ?_, ?_⟩
    · rw [List.all_append, List.all_append, hzo, okm, iv_ok hzo]; rfl
    · simp only [List.length_append]; omega
    rw [car_conj et]
    repeat' walk_at "e"
    exact ⟨by simp, rfl⟩
  rintro ρ μ' ⟨hw, rfl⟩
  refine st_wk hw ?_
  refine st_seq (st_asg ?_)
  repeat' walk_at "e"
  refine ⟨rfl, rfl, _, rfl, okp, by omega, ?_⟩
  repeat' walk_at "e"
  refine ⟨rfl, rfl, _, rfl, okq, by omega, ?_⟩
  repeat' walk_at "e"
  refine st_seq (st_if (et_det (b0 := decide (red l = [] ∨ red m = [])) ?_ ⟨fun hb => ?_, fun hb => st_next ?_⟩))
  · repeat' walk_at "e"
    · exact ⟨(decide_eq_true (.inl hb)).symm, rfl⟩
    · exact ⟨decide_eq_decide.mpr ⟨.inr, fun z => z.resolve_left hb⟩, rfl⟩
  · have h := of_decide_eq_true hb
    repeat' walk_at "s"
    rw [decide_eq_true (trivial_comm h)]
    exact hR
  · have h := of_decide_eq_false hb
    have hA : red l ≠ [] := fun z => h (.inl z)
    have hB : red m ≠ [] := fun z => h (.inr z)
    repeat' walk_at "s"
    refine ⟨rfl, rfl, red l, rfl, okw, by omega, core_ne hA, ?_⟩
    repeat' walk_at "e"
    refine ro_ixT (d := .str (TK.Tx (rootOf (red l)))) (by rfl) ?_
    refine ev_lst ?_
    repeat' walk_at "e"
    refine ⟨rfl, rfl, red m, rfl, okv, by omega, core_ne hB, ?_⟩
    repeat' walk_at "e"
    refine ro_ixT (d := .str (TK.Tx (rootOf (red m)))) (by rfl) ?_
    repeat' walk_at "e"
    refine ⟨rfl, rfl, red m, rfl, okv, by omega, core_ne hB, ?_⟩
    repeat' walk_at "e"
    refine ro_ixT (d := .str (TK.Tx (rootOf (red m)))) (by rfl) ?_
    repeat' walk_at "e"
    have hrl := root_len (red m)
    refine ⟨rfl, rfl, _, rfl, root_ok okv, by omega, ?_⟩
    repeat' walk_at "e"
    refine ⟨[.str (TK.Tx (rootOf (red m))), .str (TK.Tx (iv (rootOf (red m))))], rfl, by show 2 ≤ _; decide, ro_inLb (b := decide (rootOf (red l) = rootOf (red m) ∨ rootOf (red l) = iv (rootOf (red m)))) (by rfl) (by rfl) (in_two _ _ _) ?_⟩
    repeat' walk_at "e"
    rw [decide_eq_decide.mpr (comm_iff hA hB), beq_self_eq_true]
    exact hR

theorem k__law_two_right (T : Hk K mg) : Fnk P w K mg base 10 3 "_law_two_right" [] (fun ss => A__law_two_right K (permL [0, 1, 2] N0 ss)) := by
  obtain ⟨f, fd, hm, F, G⟩ := w__law_two_right (P := P) (w := w) (base := base) T
  exact ⟨f, hm, callee_of F G _ [0, 1, 2] (fun kV doc pm an cdv ct us ws hu hw => match us, ws, hu, hw with | [a0, a1, a2], [], _, _ => rfl)⟩

end
end K

namespace K
open PySem PySem.Spec PyProof.Rows L2 TK

local macro_rules | `(tactic| walk_at "v") => `(tactic| ((with_reducible refine ev_var (s := ?sv) ?hv ?kv); (case hv => exact rfl)))
set_option hygiene false
local macro_rules | `(tactic| walk_at "e") => `(tactic| (first
  | walk_at "v"
  | with_reducible apply ev_ci
  | with_reducible apply ev_cb
  | with_reducible apply ev_cn
  | with_reducible apply ev_cs
  | with_reducible apply ev_cv
  | with_reducible apply ev_op
  | with_reducible apply ev_un
  | with_reducible apply ev_CB
  | with_reducible apply ev_bm0
  | with_reducible apply ev_bm
  | with_reducible apply ev_m0
  | with_reducible apply ev_m1
  | with_reducible apply ev_sl
  | with_reducible apply ev_notV
  | with_reducible apply ev_andV
  | with_reducible apply ev_orV
  | with_reducible apply ev_if
  | with_reducible apply ev_revS
  | with_reducible apply ev_call
  | with_reducible refine ev_callE X (fun σ C fs μ' d H' x c => hX _ _ _ _ _ x (up_raise c)) ?_
  | with_reducible apply et_test
  | with_reducible apply et_B
  | with_reducible apply et_not
  | with_reducible apply et_and
  | with_reducible apply et_or
  | with_reducible apply ea_nil
  | with_reducible apply ea_cons
  | with_reducible apply eo_none
  | with_reducible apply eo_some
  | with_reducible apply ro_eqI
  | with_reducible apply ro_neI
  | with_reducible apply ro_eqT
  | with_reducible apply ro_neT
  | with_reducible apply ro_eqB
  | with_reducible apply ro_eqS
  | with_reducible apply ro_neS
  | with_reducible apply ro_neB
  | with_reducible apply ro_I
  | with_reducible apply ro_IB
  | with_reducible apply ru_I
  | with_reducible apply rc_abs
  | with_reducible apply rc_int
  | with_reducible apply gt_name
  | with_reducible apply et_yes
  | with_reducible apply ro_isB
  | with_reducible apply ro_isNn
  | with_reducible apply ro_isNb
  | with_reducible apply ro_isNi
  | with_reducible apply ro_isNs
  | with_reducible apply ro_isNl
  | with_reducible apply ro_isNu
  | with_reducible apply ro_isNv
  | with_reducible apply ro_notNn
  | with_reducible apply ro_notNb
  | with_reducible apply ro_notNi
  | with_reducible apply ro_notNs
  | with_reducible apply ro_notNl
  | with_reducible apply ro_notNu
  | with_reducible apply ro_notNv
  | with_reducible refine rc_isiN (b := true) (by decide +kernel) ?_
  | with_reducible refine rc_isiN (b := false) (by decide +kernel) ?_
  | with_reducible refine rc_isiB (b := true) (by decide +kernel) ?_
  | with_reducible refine rc_isiB (b := false) (by decide +kernel) ?_
  | with_reducible refine rc_isiI (b := true) (by decide +kernel) ?_
  | with_reducible refine rc_isiI (b := false) (by decide +kernel) ?_
  | with_reducible refine rc_isiS (b := true) (by decide +kernel) ?_
  | with_reducible refine rc_isiS (b := false) (by decide +kernel) ?_
  | with_reducible refine rc_isiL (b := true) (by decide +kernel) ?_
  | with_reducible refine rc_isiL (b := false) (by decide +kernel) ?_
  | with_reducible refine rc_isiU (b := true) (by decide +kernel) ?_
  | with_reducible refine rc_isiU (b := false) (by decide +kernel) ?_
  | with_reducible apply gt_setL
  | with_reducible apply gt_setD
  | with_reducible apply ev_din
  | with_reducible refine rc_lenT (by first | omega | (simp only [List.length_take, List.length_drop, List.length_append, List.length_reverse, List.length_map, List.length_cons, List.length_nil]; omega) | decide +kernel) ?_
  | with_reducible apply rc_lenL
  | with_reducible apply rc_lenU
  | with_reducible refine rs_str (by first | omega | (simp only [List.length_take, List.length_drop, List.length_append, List.length_reverse, List.length_map, List.length_cons, List.length_nil]; omega) | decide +kernel) ?_
  | with_reducible refine ro_catT (by first | omega | (simp only [List.length_take, List.length_drop, List.length_append, List.length_reverse, List.length_map, List.length_cons, List.length_nil]; omega) | decide +kernel) ?_
  | with_reducible refine gt_tup rfl ?_
  | ((with_reducible show TK.Gts _ _ _ _ _ _); (first | apply gts_cons | apply gts_nil))
  | with_reducible refine ro_mul (by first | omega | decide) ?_
  | with_reducible refine ro_div (by first | omega | decide) ?_
  | with_reducible refine ro_mod (by first | omega | decide) ?_
  | (with_reducible refine ⟨_, rfl, ?_⟩)
  | (with_reducible refine ⟨_, _, rfl, ?_⟩)
  | (refine ⟨fun hb => ?_, fun hb => ?_⟩ <;> first | exact absurd hb (by decide) | (try simp only [decide_eq_true_eq, decide_eq_false_iff_not, Bool.false_eq_true, Bool.true_eq_false, reduceCtorEq, Bool.not_eq_true', Bool.not_eq_false', eq_self, not_true_eq_false, not_false_eq_true] at hb))
  | fail "stuck"))
local macro_rules | `(tactic| walk_at "s") => `(tactic| (first
  | with_reducible apply st_seq
  | with_reducible apply st_next
  | with_reducible apply st_asg
  | with_reducible apply st_ret
  | with_reducible apply st_retN
  | with_reducible apply st_if
  | with_reducible apply st_drop
  | with_reducible apply st_asgG
  | with_reducible apply st_par
  | with_reducible apply st_brk
  | with_reducible apply st_cont
  | walk_at "e"
  | fail "stuck"))
local macro_rules | `(tactic| walk_at "w") => `(tactic| (repeat first | exact wk_nil | apply wk_yes | apply wk_no))
local macro_rules | `(tactic| walk_at "len") => `(tactic| (intro ss μ R X h; first
  | (rcases h with ⟨_, rfl, _⟩ | ⟨_, _, _, rfl, _⟩ | ⟨_, _, rfl, _⟩ <;> rfl)
  | (rcases h with ⟨_, rfl, _⟩ | ⟨_, rfl, _⟩ <;> rfl)
  | (obtain ⟨_, rfl, _⟩ := h; rfl)
  | (obtain ⟨_, _, rfl, _⟩ := h; rfl)
  | (obtain ⟨_, _, _, rfl, _⟩ := h; rfl)
  | (obtain ⟨_, _, _, _, rfl, _⟩ := h; rfl)
  | (obtain ⟨_, _, _, _, _, rfl, _⟩ := h; rfl)
  | (obtain ⟨_, _, _, _, _, _, rfl, _⟩ := h; rfl)
  | (obtain ⟨_, _, _, _, _, _, _, rfl, _⟩ := h; rfl)
  | (obtain ⟨_, _, _, _, _, _, _, _, rfl, _⟩ := h; rfl)
  | (obtain ⟨_, _, _, _, _, _, _, _, _, rfl, _⟩ := h; rfl)))
local macro_rules | `(tactic| walk_at "t2") => `(tactic| (refine ev_tupS ?_; (repeat' walk_at "s"); refine ⟨by show 2 ≤ _; decide, ?_⟩; (repeat' walk_at "s")))

section
variable {P : Program} {w : World} {K : PySem.W.Frag} {mg : Str → Option Value} {base : Heap}

theorem bad_d {d : PyData} (h : d ∈ badL) (μ : Mu) : Bad μ (.d d) := by
  simp only [badL, List.mem_cons, List.not_mem_nil, or_false] at h
  rcases h with rfl | rfl | rfl | rfl | rfl | rfl | rfl | rfl | rfl | rfl
  · exact ⟨_, rfl, .inl (by decide +kernel)⟩
  · exact ⟨_, rfl, .inl (by decide +kernel)⟩
  · exact ⟨_, rfl, .inr ⟨cs "abd", rfl, by decide +kernel, by decide +kernel⟩⟩
  · exact ⟨_, rfl, .inr ⟨cs "D", rfl, by decide +kernel, by decide +kernel⟩⟩
  · exact ⟨_, rfl, .inl (by decide +kernel)⟩
  · exact ⟨_, rfl, .inr ⟨List.replicate 61 97, rfl, by decide +kernel, by decide +kernel⟩⟩
  · exact ⟨_, rfl, .inl (by decide +kernel)⟩
  · exact ⟨_, rfl, .inr ⟨cs "a b", rfl, by decide +kernel, by decide +kernel⟩⟩
  · exact ⟨_, rfl, .inr ⟨cs "ab\n", rfl, by decide +kernel, by decide +kernel⟩⟩
  · exact ⟨_, rfl, .inl (by decide +kernel)⟩
theorem bad_l (q : Addr) (s : List Sc) (μ : Mu) : Bad ((q, .lst s) :: μ) (.v (.ref q)) := ⟨"list", .inl ⟨rfl, 0, _, rfl⟩, .inl (by decide +kernel)⟩
theorem bad_k (q : Addr) (μ : Mu) : Bad ((q, .dic []) :: μ) (.v (.ref q)) := ⟨"dict", .inr ⟨rfl, 0, _, rfl⟩, .inl (by decide +kernel)⟩
/-- a bad value, and what may be done with it -/
def ValOk (μ0 : Mu) (k : Nat) (p : Addr) (n : Nat) (s : Sc) (μ' : Mu) : Prop := ∃ μX kX, BoxAt μX kX p n μ' ∧ ∀ n'' μ'', BoxAt μX kX p n'' μ'' → Bad μ'' s ∧ (∀ (R : Sc → Mu → Prop) (X : XP), (∀ μ3, BoxAt μ0 k p n'' μ3 → R (B true) μ3) → A__law_very [s, s] μ'' R X) ∧ ∃ μ3, TK.Sub μ3 μ'' ∧ BoxAt μ0 k p n'' μ3
theorem bad_call {μ0 μ : Mu} {k n : Nat} {p : Addr} {R : Sc → Mu → Prop} {X : XP} (hbx : BoxAt μ0 k p n μ) (hn : n < 900000) (h : ∀ s μ', ValOk μ0 k p (n + 1) s μ' → R s μ') : A__law_bad_signed [.v (.ref p)] μ R X := by
  refine ⟨p, k, n, μ0, rfl, hbx, hn, fun μ' hb => ⟨fun d hd => h _ _ ?_, fun q => h _ _ ?_, fun q => h _ _ ?_⟩⟩
  · exact ⟨μ0, k, hb, fun n'' μ'' hb'' => ⟨bad_d hd _, fun R X hR => .inl ⟨d, rfl, hd, hR _ hb''⟩, μ'', Sub.refl, hb''⟩⟩
  · refine ⟨(q, .lst [tx [97]]) :: μ0, k + 1, hb.cons _, fun n'' μ'' hb'' => ?_⟩
    obtain ⟨μ1, rfl, h1⟩ := hb''.uncons
    exact ⟨bad_l q _ _, fun R X hR => .inr (.inl ⟨q, _, μ1, rfl, rfl, hR _ h1⟩), μ1, Sub.drop, h1⟩
  · refine ⟨(q, .dic []) :: μ0, k + 1, hb.cons _, fun n'' μ'' hb'' => ?_⟩
    obtain ⟨μ1, rfl, h1⟩ := hb''.uncons
    exact ⟨bad_k q _, fun R X hR => .inr (.inr ⟨q, μ1, rfl, rfl, hR _ h1⟩), μ1, Sub.drop, h1⟩
theorem good_aB : good (cs "aB") = true := by decide +kernel
def sixL : List PyData := [st "reduced", st "undone", st "core", st "root", st "product", st "carried"]

theorem sc__law_refused : FnScope N__law_refused ["box"] (defScope s__law_refused) := ⟨rfl, rfl, rfl, by decide +kernel, rfl, by decide +kernel, by decide +kernel⟩
theorem w__law_refused (T : Hk K mg) : Kn P w K mg base 10 "_law_refused" (defArgs s__law_refused) (defBody s__law_refused) (defScope s__law_refused) ["box"] (A__law_refused K) := by
  obtain ⟨fd, F⟩ := T.dd__law_refused
  have h__law_ask := k__law_ask (P := P) (w := w) (base := base) T
  have h__law_bad_signed := k__law_bad_signed (P := P) (w := w) (base := base) T
  have h__law_same := k__law_same (P := P) (w := w) (base := base) T
  have h__law_take := k__law_take (P := P) (w := w) (base := base) T
  have h__law_very := k__law_very (P := P) (w := w) (base := base) T
  refine ⟨_, fd, T.g__law_refused, F, fn_ok F sc__law_refused (by walk_at "len") (fun cdv Ar outer s H E hr => ⟨_, (pss_cons (ps_for (passes_of rfl) rfl (pi_listKK (K := K) (pe_lst (pa_cons pe_str (pa_cons pe_str (pa_cons pe_str (pa_cons pe_str (pa_cons pe_str (pa_cons pe_str pa_nil)))))))) (pg_name (i := 1) sc__law_refused.nd rfl (by first | exact Or.inl rfl | exact Or.inr rfl))
    (pss_cons (ps_set (i := 3) sc__law_refused.nd rfl (by first | exact Or.inl rfl | exact Or.inr rfl) (pe_fn (E := noE) h__law_bad_signed hr (by decide) (by rfl) (fun _ => pass_no) (pa_cons (pv 0) pa_nil) pk_nil))
    (pss_cons (ps_set (i := 4) sc__law_refused.nd rfl (by first | exact Or.inl rfl | exact Or.inr rfl) (pe_fn (E := noE) h__law_ask hr (by decide) (by rfl) (fun _ => pass_no) (pa_cons (pv 1) (pa_cons (pe_lst (pa_cons (pv 3) (pa_cons pe_non pa_nil))) (pa_cons (pe_cmpR op_eq (pe_fn (E := noE) h__law_take hr (by decide) (by rfl) (fun _ => pass_no) (pa_cons (pv 0) (pa_cons pe_int pa_nil)) pk_nil) pe_int (nomark _)) pa_nil))) pk_nil))
    (pss_cons (ps_if (PW.pt (pw_or (pt_cmpR op_ne (pe_ix (ix_listK (K := K)) (pv 4) pe_int (fun _ _ => rfl)) pe_str (nomark _)) (pw_or1 (pt_not (pt_val (pe_fn (E := noE) h__law_very hr (by decide) (by rfl) (fun _ => pass_no) (pa_cons (pe_ix (ix_listK (K := K)) (pv 4) pe_int (fun _ _ => rfl)) (pa_cons (pv 3) pa_nil)) pk_nil)))))) (pss_one (ps_ret pe_bl)) pss_nil)
    (pss_cons (ps_set (i := 3) sc__law_refused.nd rfl (by first | exact Or.inl rfl | exact Or.inr rfl) (pe_fn (E := noE) h__law_bad_signed hr (by decide) (by rfl) (fun _ => pass_no) (pa_cons (pv 0) pa_nil) pk_nil))
    (pss_one (ps_if (pt_cmpR (op_in_seqK (K := K)) (pv 1) (pe_lst (pa_cons pe_str (pa_cons pe_str pa_nil))) (by rfl)) (pss_cons (ps_set (i := 4) sc__law_refused.nd rfl (by first | exact Or.inl rfl | exact Or.inr rfl) (pe_fn (E := noE) h__law_ask hr (by decide) (by rfl) (fun _ => pass_no) (pa_cons (pv 1) (pa_cons (pe_lst (pa_cons pe_str (pa_cons (pv 3) pa_nil))) (pa_cons (pe_cmpR op_eq (pe_fn (E := noE) h__law_take hr (by decide) (by rfl) (fun _ => pass_no) (pa_cons (pv 0) (pa_cons pe_int pa_nil)) pk_nil) pe_int (nomark _)) pa_nil))) pk_nil))
    (pss_one (ps_if (PW.pt (pw_or (pt_cmpR op_ne (pe_ix (ix_listK (K := K)) (pv 4) pe_int (fun _ _ => rfl)) pe_str (nomark _)) (pw_or1 (pt_not (pt_val (pe_fn (E := noE) h__law_very hr (by decide) (by rfl) (fun _ => pass_no) (pa_cons (pe_ix (ix_listK (K := K)) (pv 4) pe_int (fun _ _ => rfl)) (pa_cons (pv 3) pa_nil)) pk_nil)))))) (pss_one (ps_ret pe_bl)) pss_nil))) pss_nil)))))))
    (pss_cons (ps_for (passes_of rfl) rfl (pi_range1 (by rfl) T.n_range (pa_cons pe_int pa_nil)) (pg_name (i := 2) sc__law_refused.nd rfl (by first | exact Or.inl rfl | exact Or.inr rfl))
    (pss_cons (ps_set (i := 3) sc__law_refused.nd rfl (by first | exact Or.inl rfl | exact Or.inr rfl) (pe_fn (E := noE) h__law_bad_signed hr (by decide) (by rfl) (fun _ => pass_no) (pa_cons (pv 0) pa_nil) pk_nil))
    (pss_one (ps_if (pt_not (pt_val (pe_fn (E := noE) h__law_same hr (by decide) (by rfl) (fun _ => pass_no) (pa_cons (pe_fn (E := noE) h__law_ask hr (by decide) (by rfl) (fun _ => pass_no) (pa_cons pe_str (pa_cons (pe_lst (pa_cons (pv 3) pa_nil)) (pa_cons (pe_cmpR op_eq (pe_fn (E := noE) h__law_take hr (by decide) (by rfl) (fun _ => pass_no) (pa_cons (pv 0) (pa_cons pe_int pa_nil)) pk_nil) pe_int (nomark _)) pa_nil))) pk_nil) (pa_cons (pe_lst (pa_cons pe_str (pa_cons pe_bl pa_nil))) pa_nil)) pk_nil))) (pss_one (ps_ret pe_bl)) pss_nil))))
    (pss_one (ps_ret pe_bl)))), ?_⟩)⟩
  intro P0 μ μf ss R X hA hX
  obtain ⟨p, k, n, μ0, rfl, hbx, hn, hR⟩ := hA
  refine st_seq (st_N (fun ρ μ' => Wk ρ [some (.v (.ref p)), none, none, none, none] ∧ BoxAt μ0 k p (n + 24) μ') (st_for (ei_list (ev_lst ?_))) ?_)
  · repeat' walk_at "e"
    refine ⟨sixL, rfl, by show 6 ≤ _; decide, ?_⟩
    repeat' walk_at "e"
    refine ⟨fun i ρ μ' => Wk ρ [some (.v (.ref p)), none, none, none, none] ∧ BoxAt μ0 k p (n + 4 * i) μ', ⟨by walk_at "w", hbx⟩, ?_, fun ρ μ' hI => hI⟩
    rintro i s ρ μ1 hi ⟨hw, hb1⟩
    have hi6 : i < 6 := (List.getElem?_eq_some_iff.mp hi).1
    have hs : ∃ wd, s = tx wd ∧ ((wd ∈ oneW ∧ inV (vOf (.str (TK.Tx wd))) ([st "product", st "carried"].map vOf) = false) ∨ (wd ∈ twoW ∧ inV (vOf (.str (TK.Tx wd))) ([st "product", st "carried"].map vOf) = true)) := by
      have hm := List.mem_of_getElem? hi
      simp only [sixL, List.map_cons, List.map_nil, List.mem_cons, List.not_mem_nil, or_false] at hm
      rcases hm with rfl | rfl | rfl | rfl | rfl | rfl
      · exact ⟨cs "reduced", rfl, .inl ⟨by simp [oneW], by decide +kernel⟩⟩
      · exact ⟨cs "undone", rfl, .inl ⟨by simp [oneW], by decide +kernel⟩⟩
      · exact ⟨cs "core", rfl, .inl ⟨by simp [oneW], by decide +kernel⟩⟩
      · exact ⟨cs "root", rfl, .inl ⟨by simp [oneW], by decide +kernel⟩⟩
      · exact ⟨cs "product", rfl, .inr ⟨by simp [twoW], by decide +kernel⟩⟩
      · exact ⟨cs "carried", rfl, .inr ⟨by simp [twoW], by decide +kernel⟩⟩
    obtain ⟨wd, rfl, hwd⟩ := hs
    refine gt_wk hw (gt_name ?_)
    refine st_seq (st_asg ?_)
    repeat' walk_at "e"
    refine ⟨rfl, rfl, bad_call hb1 (by omega) fun v μ2 hv => ?_⟩
    obtain ⟨μX, kX, hb2, hcap⟩ := hv
    refine st_seq (st_asg ?_)
    repeat' walk_at "e"
    refine ev_lstS ?_
    repeat' walk_at "e"
    refine ⟨by show 2 ≤ _; decide, ?_⟩
    repeat' walk_at "e"
    refine ⟨rfl, rfl, p, kX, n + 4 * i + 1, 2, μX, rfl, hb2, by omega, by decide, by decide, fun d hd μ3 hb3 => ?_⟩
    obtain ⟨hbad, hvery, -⟩ := hcap _ _ hb3
    repeat' walk_at "e"
    have hask : AskS μ3 wd [v, N0] (resSigned v) := by
      rcases hwd with ⟨h, _⟩ | ⟨h, _⟩
      · exact .one1 h hbad
      · exact .two1 h hbad
    refine ⟨rfl, rfl, wd, _, _, _, rfl, hask, ?_⟩
    refine st_seq (st_if (et_detM (b0 := false) (fun μ' => BoxAt μ0 k p (n + 4 * i + 2) μ') ?_ fun μ4 hb4 => ⟨fun hb => (by cases hb), fun _ => st_next ?_⟩))
    · repeat' walk_at "e"
      refine ro_ixLS atI_c0 ?_
      repeat' walk_at "e"
      refine ro_ixLS atI_c1 ?_
      repeat' walk_at "e"
      refine ⟨rfl, rfl, hvery _ _ fun μ4 hb4 => ?_⟩
      exact ⟨_, rfl, rfl, hb4⟩
    refine st_seq (st_asg ?_)
    repeat' walk_at "e"
    refine ⟨rfl, rfl, bad_call hb4 (by omega) fun v2 μ5 hv2 => ?_⟩
    obtain ⟨μY, kY, hb5, hcap2⟩ := hv2
    refine st_if ?_
    repeat' walk_at "e"
    refine ev_lst ?_
    repeat' walk_at "e"
    rcases hwd with ⟨hw1, hin⟩ | ⟨hw2, hin⟩
    · refine ⟨[st "product", st "carried"], rfl, by show 2 ≤ _; decide, ro_inLb (b := false) (by rfl) (by rfl) hin ?_⟩
      repeat' walk_at "e"
      obtain ⟨-, -, μ6, hsub, hb6⟩ := hcap2 _ _ hb5
      refine st_le hsub (st_next ⟨by walk_at "w", hb6.le (by omega)⟩)
    · refine ⟨[st "product", st "carried"], rfl, by show 2 ≤ _; decide, ro_inLb (b := true) (by rfl) (by rfl) hin ?_⟩
      repeat' walk_at "e"
      refine st_seq (st_asg ?_)
      repeat' walk_at "e"
      refine ev_lstS ?_
      repeat' walk_at "e"
      refine ⟨by show 2 ≤ _; decide, ?_⟩
      repeat' walk_at "e"
      refine ⟨rfl, rfl, p, kY, n + 4 * i + 2 + 1, 2, μY, rfl, hb5, by omega, by decide, by decide, fun d hd μ6 hb6 => ?_⟩
      obtain ⟨hbad2, hvery2, -⟩ := hcap2 _ _ hb6
      repeat' walk_at "e"
      refine ⟨rfl, rfl, wd, _, _, _, rfl, .two2 hw2 good_aB hbad2, ?_⟩
      refine st_if (et_detM (b0 := false) (fun μ' => BoxAt μ0 k p (n + 4 * i + 4) μ') ?_ fun μ7 hb7 => ⟨fun hb => (by cases hb), fun _ => st_next ⟨by walk_at "w", hb7⟩⟩)
      repeat' walk_at "e"
      refine ro_ixLS atI_c0 ?_
      repeat' walk_at "e"
      refine ro_ixLS atI_c1 ?_
      repeat' walk_at "e"
      refine ⟨rfl, rfl, hvery2 _ _ fun μ4 hb4 => ?_⟩
      exact ⟨_, rfl, rfl, hb4⟩
  rintro ρ μ1 ⟨hw, hb1⟩
  refine st_wk hw ?_
  refine st_seq (st_N (fun ρ μ' => Wk ρ [some (.v (.ref p)), none, none, none, none] ∧ BoxAt μ0 k p (n + 30) μ') (st_for (ei_rng1 ?_)) ?_)
  · repeat' walk_at "e"
    refine ⟨by decide, by decide, fun i ρ μ' => Wk ρ [some (.v (.ref p)), none, none, none, none] ∧ BoxAt μ0 k p (n + 24 + 2 * i) μ', ⟨by walk_at "w", hb1⟩, ?_, ?_⟩
    · rintro i s ρ μ2 hi ⟨hw, hb2⟩
      have hi3 : i < 3 := by
        have := (List.getElem?_eq_some_iff.mp hi).1
        rw [List.length_map, List.length_range] at this
        exact this
      refine gt_wk hw (gt_name ?_)
      refine st_seq (st_asg ?_)
      repeat' walk_at "e"
      refine ⟨rfl, rfl, bad_call hb2 (by omega) fun v μ3 hv => ?_⟩
      obtain ⟨μX, kX, hb3, hcap⟩ := hv
      refine st_if (et_detM (b0 := false) (fun μ' => BoxAt μX kX p (n + 24 + 2 * i + 2) μ') ?_ fun μ4 hb4 => ⟨fun hb => (by cases hb), fun _ => ?_⟩)
      · repeat' walk_at "e"
        refine ev_lstS ?_
        repeat' walk_at "e"
        refine ⟨by show 1 ≤ _; decide, ?_⟩
        repeat' walk_at "e"
        refine ⟨rfl, rfl, p, kX, n + 24 + 2 * i + 1, 2, μX, rfl, hb3, by omega, by decide, by decide, fun d hd μ5 hb5 => ?_⟩
        obtain ⟨hbad, -, -⟩ := hcap _ _ hb5
        repeat' walk_at "e"
        refine ⟨rfl, rfl, cs "is", _, _, _, rfl, .isF hbad, ?_⟩
        repeat' walk_at "e"
        refine ev_lst ?_
        repeat' walk_at "e"
        refine ⟨[st "told", .bool false], rfl, by show 2 ≤ _; decide, ?_⟩
        repeat' walk_at "e"
        refine ⟨rfl, rfl, _, _, rfl, fit_two (n := 5) True.intro True.intro, fun b hb => ?_⟩
        rw [hb.mpr rfl]
        exact ⟨_, rfl, rfl, hb5⟩
      · obtain ⟨-, -, μ6, hsub, hb6⟩ := hcap _ _ hb4
        exact st_le hsub (st_next ⟨by walk_at "w", hb6⟩)
    · rintro ρ μ' ⟨hw, hb2⟩
      exact ⟨hw, hb2⟩
  rintro ρ μ2 ⟨hw, hb2⟩
  refine st_wk hw ?_
  repeat' walk_at "s"
  exact hR _ (hb2.le (by omega))

theorem k__law_refused (T : Hk K mg) : Fnk P w K mg base 10 1 "_law_refused" [] (fun ss => A__law_refused K (permL [0] N0 ss)) := by
  obtain ⟨f, fd, hm, F, G⟩ := w__law_refused (P := P) (w := w) (base := base) T
  exact ⟨f, hm, callee_of F G _ [0] (fun kV doc pm an cdv ct us ws hu hw => match us, ws, hu, hw with | [a0], [], _, _ => rfl)⟩

end
end K

namespace K
open PySem PySem.Spec PyProof.Rows L2 TK

local macro_rules | `(tactic| walk_at "v") => `(tactic| ((with_reducible refine ev_var (s := ?sv) ?hv ?kv); (case hv => exact rfl)))
set_option hygiene false
local macro_rules | `(tactic| walk_at "e") => `(tactic| (first
  | walk_at "v"
  | with_reducible apply ev_ci
  | with_reducible apply ev_cb
  | with_reducible apply ev_cn
  | with_reducible apply ev_cs
  | with_reducible apply ev_cv
  | with_reducible apply ev_op
  | with_reducible apply ev_un
  | with_reducible apply ev_CB
  | with_reducible apply ev_bm0
  | with_reducible apply ev_bm
  | with_reducible apply ev_m0
  | with_reducible apply ev_m1
  | with_reducible apply ev_sl
  | with_reducible apply ev_notV
  | with_reducible apply ev_andV
  | with_reducible apply ev_orV
  | with_reducible apply ev_if
  | with_reducible apply ev_revS
  | with_reducible apply ev_call
  | with_reducible refine ev_callE X (fun σ C fs μ' d H' x c => hX _ _ _ _ _ x (up_raise c)) ?_
  | with_reducible apply et_test
  | with_reducible apply et_B
  | with_reducible apply et_not
  | with_reducible apply et_and
  | with_reducible apply et_or
  | with_reducible apply ea_nil
  | with_reducible apply ea_cons
  | with_reducible apply eo_none
  | with_reducible apply eo_some
  | with_reducible apply ro_eqI
  | with_reducible apply ro_neI
  | with_reducible apply ro_eqT
  | with_reducible apply ro_neT
  | with_reducible apply ro_eqB
  | with_reducible apply ro_eqS
  | with_reducible apply ro_neS
  | with_reducible apply ro_neB
  | with_reducible apply ro_I
  | with_reducible apply ro_IB
  | with_reducible apply ru_I
  | with_reducible apply rc_abs
  | with_reducible apply rc_int
  | with_reducible apply gt_name
  | with_reducible apply et_yes
  | with_reducible apply ro_isB
  | with_reducible apply ro_isNn
  | with_reducible apply ro_isNb
  | with_reducible apply ro_isNi
  | with_reducible apply ro_isNs
  | with_reducible apply ro_isNl
  | with_reducible apply ro_isNu
  | with_reducible apply ro_isNv
  | with_reducible apply ro_notNn
  | with_reducible apply ro_notNb
  | with_reducible apply ro_notNi
  | with_reducible apply ro_notNs
  | with_reducible apply ro_notNl
  | with_reducible apply ro_notNu
  | with_reducible apply ro_notNv
  | with_reducible refine rc_isiN (b := true) (by decide +kernel) ?_
  | with_reducible refine rc_isiN (b := false) (by decide +kernel) ?_
  | with_reducible refine rc_isiB (b := true) (by decide +kernel) ?_
  | with_reducible refine rc_isiB (b := false) (by decide +kernel) ?_
  | with_reducible refine rc_isiI (b := true) (by decide +kernel) ?_
  | with_reducible refine rc_isiI (b := false) (by decide +kernel) ?_
  | with_reducible refine rc_isiS (b := true) (by decide +kernel) ?_
  | with_reducible refine rc_isiS (b := false) (by decide +kernel) ?_
  | with_reducible refine rc_isiL (b := true) (by decide +kernel) ?_
  | with_reducible refine rc_isiL (b := false) (by decide +kernel) ?_
  | with_reducible refine rc_isiU (b := true) (by decide +kernel) ?_
  | with_reducible refine rc_isiU (b := false) (by decide +kernel) ?_
  | with_reducible apply gt_setL
  | with_reducible apply gt_setD
  | with_reducible apply ev_din
  | with_reducible refine rc_lenT (by first | omega | (simp only [List.length_take, List.length_drop, List.length_append, List.length_reverse, List.length_map, List.length_cons, List.length_nil]; omega) | decide +kernel) ?_
  | with_reducible apply rc_lenL
  | with_reducible apply rc_lenU
  | with_reducible refine rs_str (by first | omega | (simp only [List.length_take, List.length_drop, List.length_append, List.length_reverse, List.length_map, List.length_cons, List.length_nil]; omega) | decide +kernel) ?_
  | with_reducible refine ro_catT (by first | omega | (simp only [List.length_take, List.length_drop, List.length_append, List.length_reverse, List.length_map, List.length_cons, List.length_nil]; omega) | decide +kernel) ?_
  | with_reducible refine gt_tup rfl ?_
  | ((with_reducible show TK.Gts _ _ _ _ _ _); (first | apply gts_cons | apply gts_nil))
  | with_reducible refine ro_mul (by first | omega | decide) ?_
  | with_reducible refine ro_div (by first | omega | decide) ?_
  | with_reducible refine ro_mod (by first | omega | decide) ?_
  | (with_reducible refine ⟨_, rfl, ?_⟩)
  | (with_reducible refine ⟨_, _, rfl, ?_⟩)
  | (refine ⟨fun hb => ?_, fun hb => ?_⟩ <;> first | exact absurd hb (by decide) | (try simp only [decide_eq_true_eq, decide_eq_false_iff_not, Bool.false_eq_true, Bool.true_eq_false, reduceCtorEq, Bool.not_eq_true', Bool.not_eq_false', eq_self, not_true_eq_false, not_false_eq_true] at hb))
  | fail "stuck"))
local macro_rules | `(tactic| walk_at "s") => `(tactic| (first
  | with_reducible apply st_seq
  | with_reducible apply st_next
  | with_reducible apply st_asg
  | with_reducible apply st_ret
  | with_reducible apply st_retN
  | with_reducible apply st_if
  | with_reducible apply st_drop
  | with_reducible apply st_asgG
  | with_reducible apply st_par
  | with_reducible apply st_brk
  | with_reducible apply st_cont
  | walk_at "e"
  | fail "stuck"))
local macro_rules | `(tactic| walk_at "w") => `(tactic| (repeat first | exact wk_nil | apply wk_yes | apply wk_no))
local macro_rules | `(tactic| walk_at "len") => `(tactic| (intro ss μ R X h; first
  | (rcases h with ⟨_, rfl, _⟩ | ⟨_, _, _, rfl, _⟩ | ⟨_, _, rfl, _⟩ <;> rfl)
  | (rcases h with ⟨_, rfl, _⟩ | ⟨_, rfl, _⟩ <;> rfl)
  | (obtain ⟨_, rfl, _⟩ := h; rfl)
  | (obtain ⟨_, _, rfl, _⟩ := h; rfl)
  | (obtain ⟨_, _, _, rfl, _⟩ := h; rfl)
  | (obtain ⟨_, _, _, _, rfl, _⟩ := h; rfl)
  | (obtain ⟨_, _, _, _, _, rfl, _⟩ := h; rfl)
  | (obtain ⟨_, _, _, _, _, _, rfl, _⟩ := h; rfl)
  | (obtain ⟨_, _, _, _, _, _, _, rfl, _⟩ := h; rfl)
  | (obtain ⟨_, _, _, _, _, _, _, _, rfl, _⟩ := h; rfl)
  | (obtain ⟨_, _, _, _, _, _, _, _, _, rfl, _⟩ := h; rfl)))
local macro_rules | `(tactic| walk_at "t2") => `(tactic| (refine ev_tupS ?_; (repeat' walk_at "s"); refine ⟨by show 2 ≤ _; decide, ?_⟩; (repeat' walk_at "s")))

section
variable {P : Program} {w : World} {K : PySem.W.Frag} {mg : Str → Option Value} {base : Heap}

theorem good_of {l : List Nat} (h1 : l.length ≤ 60) (h2 : l.all okc = true) : good l = true := by
  unfold good; rw [h2, decide_eq_true h1]; rfl
theorem most_ok {d : Nat} (h : d < 8) : ∃ m : Nat, m ≤ 60 ∧ atI ([12, 12, 8, 12, 12, 8, 12, 60].map PyData.int) (d : Int) = some (.int (m : Int)) := by
  rcases (by omega : d = 0 ∨ d = 1 ∨ d = 2 ∨ d = 3 ∨ d = 4 ∨ d = 5 ∨ d = 6 ∨ d = 7) with rfl | rfl | rfl | rfl | rfl | rfl | rfl | rfl
  · exact ⟨12, by decide, rfl⟩
  · exact ⟨12, by decide, rfl⟩
  · exact ⟨8, by decide, rfl⟩
  · exact ⟨12, by decide, rfl⟩
  · exact ⟨12, by decide, rfl⟩
  · exact ⟨8, by decide, rfl⟩
  · exact ⟨12, by decide, rfl⟩
  · exact ⟨60, by decide, rfl⟩
theorem scL3 {I : Hp} {xs : List V} {s t r : Sc} (h : ScL I xs [s, t, r]) : ∃ x y z, xs = [x, y, z] ∧ s.p I x ∧ t.p I y ∧ r.p I z := by
  cases h with
  | cons h1 h2 =>
    obtain ⟨y, z, rfl, h3, h4⟩ := scL2 h2
    exact ⟨_, _, _, rfl, h1, h3, h4⟩
theorem st_par3 {F : Fr} {ρ : Rho} {μ : Mu} {N : PN} {R : Sc → Mu → Prop} {B' C' : PN} {i j l : Nat} {ta : TA} (h : EvA F ρ μ ta fun ss μ1 => ∃ s t r, ss = [s, t, r] ∧ N (((ρ.set i (some s)).set j (some t)).set l (some r)) μ1) : Sat F ρ μ (tPar3 i j l ta) N R B' C' := fun P μf hP σ H D c q1 _ _ _ =>
  h P μf hP σ H _ c fun ss μ1 vs H1 h1 c1 => by
    obtain ⟨s, t, r, rfl, h1⟩ := h1
    obtain ⟨I, c1⟩ := c1
    obtain ⟨v, w, u, rfl, _⟩ := scL3 c1.up.2
    refine ⟨v, w, u, rfl, q1 _ μ1 _ H1 h1 ⟨I, c1.ex, ⟨c1.up.1.1, ?_⟩, c1.nd, c1.mu⟩⟩
    obtain ⟨v', w', u', e, a1, a2, a3⟩ := scL3 c1.up.2
    cases e
    exact Sl.set (Sl.set (Sl.set c1.up.1.2 a1) a2) a3

theorem sc_law : FnScope N_law ["script"] (defScope s_law) := ⟨rfl, rfl, rfl, by decide +kernel, rfl, by decide +kernel, by decide +kernel⟩
theorem w_law (T : Hk K mg) : Kn P w K mg base 11 "law" (defArgs s_law) (defBody s_law) (defScope s_law) ["script"] (A_law K) := by
  obtain ⟨fd, F⟩ := T.dd_law
  have h__law_box := k__law_box (P := P) (w := w) (base := base) T
  have h__law_cell := k__law_cell (P := P) (w := w) (base := base) T
  have h__law_core := k__law_core (P := P) (w := w) (base := base) T
  have h__law_reduce := k__law_reduce (P := P) (w := w) (base := base) T
  have h__law_refused := k__law_refused (P := P) (w := w) (base := base) T
  have h__law_signed := k__law_signed (P := P) (w := w) (base := base) T
  have h__law_take := k__law_take (P := P) (w := w) (base := base) T
  have h__law_two_right := k__law_two_right (P := P) (w := w) (base := base) T
  have h__law_undo := k__law_undo (P := P) (w := w) (base := base) T
  have h__law_word_right := k__law_word_right (P := P) (w := w) (base := base) T
  refine ⟨_, fd, T.g_law, F, fn_ok F sc_law (by walk_at "len") (fun cdv Ar outer s H E hr => ⟨_, (pss_cons (ps_for (passes_of rfl) rfl (pi_range1 (by rfl) T.n_range (pa_cons (pe_callB (call_max2 rfl) (by rfl) T.n_max (by decide +kernel) (pa_cons pe_int (pa_cons (pe_callB (call_min2 rfl) (by rfl) T.n_min (by decide +kernel) (pa_cons pe_int (pa_cons (pe_callB (call_lenK (K := K)) (by rfl) T.n_len (by decide +kernel) (pa_cons (pv 0) pa_nil)) pa_nil))) pa_nil))) pa_nil)) (pg_name (i := 1) sc_law.nd rfl (by first | exact Or.inl rfl | exact Or.inr rfl))
    (pss_cons (ps_set (i := 2) sc_law.nd rfl (by first | exact Or.inl rfl | exact Or.inr rfl) (pe_fn (E := noE) h__law_box hr (by decide) (by rfl) (fun _ => pass_no) (pa_cons (pe_fn (E := noE) h__law_cell hr (by decide) (by rfl) (fun _ => pass_no) (pa_cons (pv 0) (pa_cons (pv 1) pa_nil)) pk_nil) pa_nil) pk_nil))
    (pss_cons (ps_par (i := 9) (j := 10) (by rfl) sc_law.nd rfl rfl (by decide) rfl rfl (pa_cons (pe_cmpR op_eq (pe_fn (E := noE) h__law_take hr (by decide) (by rfl) (fun _ => pass_no) (pa_cons (pv 2) (pa_cons pe_int pa_nil)) pk_nil) pe_int (nomark _)) (pa_cons (pe_op op_add pe_int (pe_fn (E := noE) h__law_take hr (by decide) (by rfl) (fun _ => pass_no) (pa_cons (pv 2) (pa_cons pe_int pa_nil)) pk_nil)) pa_nil)) (by rfl))
    (pss_cons (ps_set (i := 3) sc_law.nd rfl (by first | exact Or.inl rfl | exact Or.inr rfl) (pe_ix (ix_listK (K := K)) (pe_lst (pa_cons pe_int (pa_cons pe_int (pa_cons pe_int (pa_cons pe_int (pa_cons pe_int (pa_cons pe_int (pa_cons pe_int (pa_cons pe_int pa_nil))))))))) (pe_fn (E := noE) h__law_take hr (by decide) (by rfl) (fun _ => pass_no) (pa_cons (pv 2) (pa_cons pe_int pa_nil)) pk_nil) (fun _ _ => rfl)))
    (pss_cons (ps_par3 (i := 11) (j := 12) (l := 13) (by rfl) sc_law.nd rfl rfl rfl (by decide) (by decide) (by decide) rfl rfl rfl (pa_cons (pe_fn (E := noE) h__law_signed hr (by decide) (by rfl) (fun _ => pass_no) (pa_cons (pv 2) (pa_cons (pv 10) (pa_cons (pv 3) pa_nil))) pk_nil) (pa_cons (pe_fn (E := noE) h__law_signed hr (by decide) (by rfl) (fun _ => pass_no) (pa_cons (pv 2) (pa_cons (pv 10) (pa_cons pe_int pa_nil))) pk_nil) (pa_cons (pe_fn (E := noE) h__law_signed hr (by decide) (by rfl) (fun _ => pass_no) (pa_cons (pv 2) (pa_cons (pv 10) (pa_cons pe_int pa_nil))) pk_nil) pa_nil))) (by rfl))
    (pss_cons (ps_set (i := 4) sc_law.nd rfl (by first | exact Or.inl rfl | exact Or.inr rfl) (pe_ix (ix_tupK (K := K)) (pe_fn (E := noE) h__law_core hr (by decide) (by rfl) (fun _ => pass_no) (pa_cons (pe_fn (E := noE) h__law_reduce hr (by decide) (by rfl) (fun _ => pass_no) (pa_cons (pv 11) pa_nil) pk_nil) pa_nil) pk_nil) pe_int (fun _ _ => rfl)))
    (pss_cons (ps_set (i := 5) sc_law.nd rfl (by first | exact Or.inl rfl | exact Or.inr rfl) (pe_fn (E := noE) h__law_take hr (by decide) (by rfl) (fun _ => pass_no) (pa_cons (pv 2) (pa_cons (pe_op op_add (pe_callB (call_lenK (K := K)) (by rfl) T.n_len (by decide +kernel) (pa_cons (pv 4) pa_nil)) pe_int) pa_nil)) pk_nil))
    (pss_cons (ps_set (i := 6) sc_law.nd rfl (by first | exact Or.inl rfl | exact Or.inr rfl) (pe_op op_repS (pv 13) (pe_op op_add pe_int (pe_fn (E := noE) h__law_take hr (by decide) (by rfl) (fun _ => pass_no) (pa_cons (pv 2) (pa_cons pe_int pa_nil)) pk_nil))))
    (pss_cons (ps_set (i := 7) sc_law.nd rfl (by first | exact Or.inl rfl | exact Or.inr rfl) (pe_lst (pa_cons (pv 11) (pa_cons (pe_slice sl_str (pe_op op_add_str (pe_op op_add_str (pv 12) (pv 6)) (pe_fn (E := noE) h__law_undo hr (by decide) (by rfl) (fun _ => pass_no) (pa_cons (pv 12) pa_nil) pk_nil)) po_none (po_some pe_int)) (pa_cons (pe_slice sl_str (pe_op op_add_str (pe_op op_add_str (pe_op op_add_str (pv 12) (pe_slice sl_str (pv 4) (po_some (pv 5)) po_none)) (pe_slice sl_str (pv 4) po_none (po_some (pv 5)))) (pe_fn (E := noE) h__law_undo hr (by decide) (by rfl) (fun _ => pass_no) (pa_cons (pv 12) pa_nil) pk_nil)) po_none (po_some pe_int)) (pa_cons pe_str (pa_cons (pe_op op_add_str (pv 12) (pe_fn (E := noE) h__law_undo hr (by decide) (by rfl) (fun _ => pass_no) (pa_cons (pv 12) pa_nil) pk_nil)) pa_nil)))))))
    (pss_cons (ps_for (passes_of rfl) rfl (pi_listKK (K := K) (pv 7)) (pg_name (i := 8) sc_law.nd rfl (by first | exact Or.inl rfl | exact Or.inr rfl))
    (pss_cons (ps_if (pt_not (pt_val (pe_fn (E := noE) h__law_word_right hr (by decide) (by rfl) (fun _ => pass_no) (pa_cons (pv 2) (pa_cons (pv 8) (pa_cons (pv 9) pa_nil))) pk_nil))) (pss_one (ps_ret pe_bl)) pss_nil)
    (pss_one (ps_set (i := 9) sc_law.nd rfl (by first | exact Or.inl rfl | exact Or.inr rfl) (pe_not (pv 9))))))
    (pss_cons (ps_for (passes_of rfl) rfl (pi_listKK (K := K) (pe_lst (pa_cons (pe_tup (pa_cons (pe_ix (ix_listK (K := K)) (pv 7) pe_int (fun _ _ => rfl)) (pa_cons (pe_ix (ix_listK (K := K)) (pv 7) pe_int (fun _ _ => rfl)) pa_nil))) (pa_cons (pe_tup (pa_cons (pe_ix (ix_listK (K := K)) (pv 7) pe_int (fun _ _ => rfl)) (pa_cons (pe_slice sl_str (pe_op op_add_str (pe_op op_add_str (pv 12) (pe_op op_repS (pv 13) pe_int)) (pe_fn (E := noE) h__law_undo hr (by decide) (by rfl) (fun _ => pass_no) (pa_cons (pv 12) pa_nil) pk_nil)) po_none (po_some pe_int)) pa_nil))) (pa_cons (pe_tup (pa_cons (pe_op op_repS (pv 13) pe_int) (pa_cons (pe_fn (E := noE) h__law_undo hr (by decide) (by rfl) (fun _ => pass_no) (pa_cons (pv 13) pa_nil) pk_nil) pa_nil))) (pa_cons (pe_tup (pa_cons (pv 11) (pa_cons (pv 12) pa_nil))) (pa_cons (pe_tup (pa_cons (pv 11) (pa_cons (pe_fn (E := noE) h__law_undo hr (by decide) (by rfl) (fun _ => pass_no) (pa_cons (pv 11) pa_nil) pk_nil) pa_nil))) (pa_cons (pe_tup (pa_cons pe_str (pa_cons (pe_ix (ix_listK (K := K)) (pv 7) pe_int (fun _ _ => rfl)) pa_nil))) (pa_cons (pe_tup (pa_cons (pv 13) (pa_cons (pv 11) pa_nil))) pa_nil))))))))) (pg_tup rfl (pgs_cons (pg_name (i := 14) sc_law.nd rfl (by first | exact Or.inl rfl | exact Or.inr rfl)) (pgs_cons (pg_name (i := 15) sc_law.nd rfl (by first | exact Or.inl rfl | exact Or.inr rfl)) pgs_nil)))
    (pss_cons (ps_if (pt_not (pt_val (pe_fn (E := noE) h__law_two_right hr (by decide) (by rfl) (fun _ => pass_no) (pa_cons (pv 14) (pa_cons (pv 15) (pa_cons (pv 9) pa_nil))) pk_nil))) (pss_one (ps_ret pe_bl)) pss_nil)
    (pss_one (ps_set (i := 9) sc_law.nd rfl (by first | exact Or.inl rfl | exact Or.inr rfl) (pe_not (pv 9))))))
    (pss_one (ps_if (pt_not (pt_val (pe_fn (E := noE) h__law_refused hr (by decide) (by rfl) (fun _ => pass_no) (pa_cons (pv 2) pa_nil) pk_nil))) (pss_one (ps_ret pe_bl)) pss_nil)))))))))))))
    (pss_one (ps_ret pe_bl))), ?_⟩)⟩
  intro P0 μ μf ss R X hA hX
  obtain ⟨ns, rfl, rfl, hR⟩ := hA
  refine st_seq (st_N (fun ρ μ' => Wk ρ [some (scS K ns), none, none, none, none, none, none, none, none, none, none, none, none, none, none, none] ∧ μ' = []) (st_for (ei_rng1 ?_)) ?_)
  · repeat' walk_at "e"
    refine rc_lenSc ?_
    repeat' walk_at "e"
    refine rc_min2 ?_
    repeat' walk_at "e"
    refine rc_max2 ?_
    repeat' walk_at "e"
    have hq : (if (if (ns.length : Int) < 3 then (ns.length : Int) else 3) > 2 then (if (ns.length : Int) < 3 then (ns.length : Int) else 3) else 2) ≤ 3 ∧ 0 ≤ (if (if (ns.length : Int) < 3 then (ns.length : Int) else 3) > 2 then (if (ns.length : Int) < 3 then (ns.length : Int) else 3) else 2) := by
      generalize (ns.length : Int) = x
      by_cases h : x < 3
      · simp only [if_pos h]
        by_cases h2 : x > 2
        · simp only [if_pos h2]; omega
        · simp only [if_neg h2]; omega
      · simp only [if_neg h]; decide
    generalize (if (if (ns.length : Int) < 3 then (ns.length : Int) else 3) > 2 then (if (ns.length : Int) < 3 then (ns.length : Int) else 3) else 2) = top at hq ⊢
    refine ⟨by omega, by omega, fun i ρ μ' => Wk ρ [some (scS K ns), none, none, none, none, none, none, none, none, none, none, none, none, none, none, none] ∧ μ' = [], ⟨by walk_at "w", rfl⟩, ?_, fun ρ μ' hI => hI⟩
    rintro i s ρ μ' hi ⟨hw, rfl⟩
    have hi3 : i < 3 := by
      have := (List.getElem?_eq_some_iff.mp hi).1
      rw [List.length_map, List.length_range] at this
      omega
    have hs : s = I (i : Int) := by
      rw [List.getElem?_map] at hi
      obtain ⟨x, hx, rfl⟩ := Option.map_eq_some_iff.mp hi
      have hlt := (List.getElem?_eq_some_iff.mp hx).1
      rw [List.length_range] at hlt
      rw [List.getElem?_range hlt] at hx
      cases hx
      show I (0 + (i : Int)) = _
      rw [Int.zero_add]
    subst hs
    refine gt_wk hw (gt_name ?_)
    refine st_seq (st_asg ?_)
    repeat' walk_at "e"
    refine ⟨rfl, rfl, ns, i, rfl, by omega, fun x => ?_⟩
    repeat' walk_at "e"
    refine ⟨rfl, rfl, x, rfl, fun p o ho => ?_⟩
    have hb0 : BoxAt [(p, o)] 0 p 0 [(p, o)] := BoxAt.one ho
    generalize hμ : [(p, o)] = μ0 at hb0 ⊢
    refine st_seq (st_par ?_)
    repeat' walk_at "e"
    refine ⟨rfl, rfl, p, 0, 0, 2, μ0, rfl, hb0, by decide, by decide, by decide, fun d1 hd1 μ1 hb1 => ?_⟩
    repeat' walk_at "e"
    refine ⟨rfl, rfl, p, 0, 1, 3, μ0, rfl, hb1, by decide, by decide, by decide, fun d2 hd2 μ2 hb2 => ?_⟩
    repeat' walk_at "e"
    refine st_seq (st_asg ?_)
    repeat' walk_at "e"
    refine ev_lst ?_
    repeat' walk_at "e"
    refine ⟨[12, 12, 8, 12, 12, 8, 12, 60].map PyData.int, rfl, by show 8 ≤ _; decide, ?_⟩
    repeat' walk_at "e"
    refine ⟨rfl, rfl, p, 0, 2, 8, μ0, rfl, hb2, by decide, by decide, by decide, fun d3 hd3 μ3 hb3 => ?_⟩
    obtain ⟨most, hmost, hat⟩ := most_ok hd3
    refine ro_ixL hat ?_
    refine st_seq (st_par3 ?_)
    repeat' walk_at "e"
    refine ⟨rfl, rfl, p, 0, 3, 1 + d2, most, μ0, rfl, hb3, by decide, by omega, by omega, by omega, fun wd μ4 okw lenw hb4 => ?_⟩
    repeat' walk_at "e"
    refine ⟨rfl, rfl, p, 0, 103, 1 + d2, 4, μ0, rfl, hb4, by decide, by omega, by omega, by decide, fun z μ5 okz lenz hb5 => ?_⟩
    repeat' walk_at "e"
    refine ⟨rfl, rfl, p, 0, 203, 1 + d2, 4, μ0, rfl, hb5, by decide, by omega, by omega, by decide, fun root μ6 okr lenr hb6 => ?_⟩
    repeat' walk_at "e"
    refine ⟨_, _, _, rfl, ?_⟩
    have okrw := red_ok okw
    have lrw := red_len wd
    have lcw := core_len (red wd)
    have okc1 := core_ok okrw
    have lz := iv_len z
    have lw := iv_len wd
    have lr := iv_len root
    refine st_seq (st_asg ?_)
    repeat' walk_at "e"
    refine ⟨rfl, rfl, wd, rfl, okw, by omega, ?_⟩
    repeat' walk_at "e"
    refine ⟨rfl, rfl, red wd, rfl, okrw, by omega, ?_⟩
    repeat' walk_at "e"
    refine ro_ixT (d := .str (TK.Tx (coreOf (red wd)))) (by rfl) ?_
    refine st_seq (st_asg ?_)
    repeat' walk_at "e"
    refine ⟨rfl, rfl, p, 0, 303, (coreOf (red wd)).length + 1, μ0, rfl, hb6, by decide, by omega, by omega, fun a ha μ7 hb7 => ?_⟩
    refine st_seq (st_asg ?_)
    repeat' walk_at "e"
    refine ⟨rfl, rfl, p, 0, 304, 4, μ0, rfl, hb7, by decide, by omega, by omega, fun e he μ8 hb8 => ?_⟩
    repeat' walk_at "e"
    have hre : root.length * (1 + e) ≤ 4 * 4 := Nat.mul_le_mul (by omega) (by omega)
    rw [show (1 : Int) + (e : Int) = ((1 + e : Nat) : Int) by omega]
    refine ro_repS (by omega) (by omega) (by rw [Int.toNat_natCast]; omega) ?_
    rw [Int.toNat_natCast]
    have lpw := rep_len root (1 + e)
    have okpw := rep_ok okr (1 + e)
    generalize (List.replicate (1 + e) root).flatten = pw at lpw okpw ⊢
    have okiz := iv_ok okz
    refine st_seq (st_asg ?_)
    repeat' walk_at "e"
    refine ev_lst ?_
    repeat' walk_at "e"
    refine ⟨rfl, rfl, z, rfl, okz, by omega, ?_⟩
    repeat' walk_at "e"
    rw [cut_a (by omega)]
    refine ro_catT (by simp only [List.length_append, List.length_drop]; omega) ?_
    repeat' walk_at "e"
    rw [cut_bmin]
    refine ro_catT (by simp only [List.length_append, List.length_drop, List.length_take]; omega) ?_
    repeat' walk_at "e"
    refine ⟨rfl, rfl, z, rfl, okz, by omega, ?_⟩
    repeat' walk_at "e"
    refine ⟨rfl, rfl, z, rfl, okz, by omega, ?_⟩
    repeat' walk_at "e"
    have cut60 : ∀ l : List Nat, cut l none (some 60) = l.take 60 := fun l => cut_bmin (b := 60)
    rw [cut60, cut60]
    have hw1 : good ((z ++ pw ++ iv z).take 60) = true := good_of (by rw [List.length_take]; omega) (take_ok (by rw [List.all_append, List.all_append, okz, okpw, okiz]; rfl) _)
    have hw2 : good ((z ++ (coreOf (red wd)).drop a ++ (coreOf (red wd)).take a ++ iv z).take 60) = true := good_of (by rw [List.length_take]; omega) (take_ok (by rw [List.all_append, List.all_append, List.all_append, okz, drop_ok okc1, take_ok okc1, okiz]; rfl) _)
    generalize (z ++ pw ++ iv z).take 60 = w1 at hw1 ⊢
    generalize (z ++ (coreOf (red wd)).drop a ++ (coreOf (red wd)).take a ++ iv z).take 60 = w2 at hw2 ⊢
    have hwd : good wd = true := good_of (by omega) okw
    have hzz : good (z ++ iv z) = true := good_of (by rw [List.length_append]; omega) (by rw [List.all_append, okz, okiz]; rfl)
    have hz0 : good z = true := good_of (by omega) okz
    have hro : good root = true := good_of (by omega) okr
    have hir : good (iv root) = true := good_of (by omega) (iv_ok okr)
    have hiw : good (iv wd) = true := good_of (by omega) (iv_ok okw)
    have hnil : good [] = true := by decide
    refine ⟨[wd, w1, w2, [], z ++ iv z].map fun l => .str (TK.Tx l), rfl, by show 5 ≤ _; decide, ?_⟩
    refine st_seq (st_N (fun ρ μ' => ∃ nm : Bool, Wk ρ [some (scS K ns), none, some (.v (.ref p)), none, none, none, none, some (.d (.list ([wd, w1, w2, [], z ++ iv z].map fun l => .str (TK.Tx l)))), none, some (B nm), none, some (tx wd), some (tx z), some (tx root), none, none] ∧ BoxAt μ0 0 p 805 μ') (st_for (ei_list ?_)) ?_)
    · repeat' walk_at "e"
      refine ⟨fun i ρ μ' => ∃ nm : Bool, Wk ρ [some (scS K ns), none, some (.v (.ref p)), none, none, none, none, some (.d (.list ([wd, w1, w2, [], z ++ iv z].map fun l => .str (TK.Tx l)))), none, some (B nm), none, some (tx wd), some (tx z), some (tx root), none, none] ∧ BoxAt μ0 0 p (305 + 100 * i) μ', ⟨_, by walk_at "w", hb8⟩, ?_, fun ρ μ' hI => hI⟩
      rintro i2 s ρ μ9 hi2 ⟨nm, hw9, hb9⟩
      have hi5 : i2 < 5 := (List.getElem?_eq_some_iff.mp hi2).1
      have hm := List.mem_of_getElem? hi2
      obtain ⟨x, hx, rfl⟩ := List.mem_map.mp hm
      obtain ⟨l, hl, rfl⟩ := List.mem_map.mp hx
      have hgl : good l = true := by
        simp only [List.mem_cons, List.not_mem_nil, or_false] at hl
        rcases hl with rfl | rfl | rfl | rfl | rfl <;> assumption
      refine gt_wk hw9 (gt_name ?_)
      refine st_seq (st_if (et_detM (b0 := false) (fun μ' => BoxAt μ0 0 p (305 + 100 * i2 + 100) μ') ?_ fun μ10 hb10 => ⟨fun hb => (by cases hb), fun _ => st_next ?_⟩))
      · repeat' walk_at "e"
        refine ⟨rfl, rfl, p, 0, _, l, nm, μ0, rfl, hb9, by omega, hgl, fun μ10 hb10 => ?_⟩
        exact ⟨_, rfl, rfl, hb10⟩
      · repeat' walk_at "s"
        exact ⟨_, by walk_at "w", hb10.le (by omega)⟩
    rintro ρ μ9 ⟨nm, hw9, hb9⟩
    refine st_wk hw9 ?_
    refine st_seq (st_N (fun ρ μ' => ∃ nm : Bool, Wk ρ [some (scS K ns), none, some (.v (.ref p)), none, none, none, none, some (.d (.list ([wd, w1, w2, [], z ++ iv z].map fun l => .str (TK.Tx l)))), none, some (B nm), none, some (tx wd), some (tx z), some (tx root), none, none] ∧ μ' = μ9) (st_for (ei_list (ev_lst ?_))) ?_)
    · repeat' walk_at "e"
      refine ev_tup ?_
      repeat' walk_at "e"
      refine ro_ixL (d := .str (TK.Tx (wd))) (by rfl) ?_
      repeat' walk_at "e"
      refine ro_ixL (d := .str (TK.Tx (w2))) (by rfl) ?_
      repeat' walk_at "e"
      refine ⟨[.str (TK.Tx (wd)), .str (TK.Tx (w2))], rfl, by show 2 ≤ _; decide, ?_⟩
      repeat' walk_at "e"
      refine ev_tup ?_
      repeat' walk_at "e"
      refine ro_ixL (d := .str (TK.Tx (w1))) (by rfl) ?_
      repeat' walk_at "e"
      refine ro_repS (by decide) (by decide) (by show root.length * 2 ≤ _; omega) ?_
      have lr2 : (List.replicate (2 : Int).toNat root).flatten.length = root.length * 2 := rep_len root 2
      have okr2 : (List.replicate (2 : Int).toNat root).flatten.all okc = true := rep_ok okr 2
      repeat' walk_at "e"
      refine ⟨rfl, rfl, z, rfl, okz, by omega, ?_⟩
      repeat' walk_at "e"
      rw [cut60]
      refine ⟨[.str (TK.Tx (w1)), .str (TK.Tx ((z ++ (List.replicate (2 : Int).toNat root).flatten ++ iv z).take 60))], rfl, by show 2 ≤ _; decide, ?_⟩
      repeat' walk_at "e"
      refine ev_tup ?_
      repeat' walk_at "e"
      refine ro_repS (by decide) (by decide) (by show root.length * 2 ≤ _; omega) ?_
      repeat' walk_at "e"
      refine ⟨rfl, rfl, root, rfl, okr, by omega, ?_⟩
      repeat' walk_at "e"
      refine ⟨[.str (TK.Tx ((List.replicate (2 : Int).toNat root).flatten)), .str (TK.Tx (iv root))], rfl, by show 2 ≤ _; decide, ?_⟩
      repeat' walk_at "e"
      refine ev_tup ?_
      repeat' walk_at "e"
      refine ⟨[.str (TK.Tx (wd)), .str (TK.Tx (z))], rfl, by show 2 ≤ _; decide, ?_⟩
      repeat' walk_at "e"
      refine ev_tup ?_
      repeat' walk_at "e"
      refine ⟨rfl, rfl, wd, rfl, okw, by omega, ?_⟩
      repeat' walk_at "e"
      refine ⟨[.str (TK.Tx (wd)), .str (TK.Tx (iv wd))], rfl, by show 2 ≤ _; decide, ?_⟩
      repeat' walk_at "e"
      refine ev_tup ?_
      repeat' walk_at "e"
      refine ro_ixL (d := .str (TK.Tx (z ++ iv z))) (by rfl) ?_
      repeat' walk_at "e"
      refine ⟨[.str (TK.Tx ([])), .str (TK.Tx (z ++ iv z))], rfl, by show 2 ≤ _; decide, ?_⟩
      repeat' walk_at "e"
      refine ev_tup ?_
      repeat' walk_at "e"
      refine ⟨[.str (TK.Tx (root)), .str (TK.Tx (wd))], rfl, by show 2 ≤ _; decide, ?_⟩
      repeat' walk_at "e"
      refine ⟨[(wd, w2), (w1, (z ++ (List.replicate (2 : Int).toNat root).flatten ++ iv z).take 60), ((List.replicate (2 : Int).toNat root).flatten, iv root), (wd, z), (wd, iv wd), ([], z ++ iv z), (root, wd)].map fun q : List Nat × List Nat => .tuple [.str (TK.Tx q.1), .str (TK.Tx q.2)], rfl, by show 7 ≤ _; decide, ?_⟩
      have hr2 : good (List.replicate (2 : Int).toNat root).flatten = true := good_of (by rw [lr2]; omega) okr2
      have hzr : good ((z ++ (List.replicate (2 : Int).toNat root).flatten ++ iv z).take 60) = true := good_of (by rw [List.length_take]; omega) (take_ok (by rw [List.all_append, List.all_append, okz, okr2, okiz]; rfl) _)
      generalize (z ++ (List.replicate (2 : Int).toNat root).flatten ++ iv z).take 60 = w3 at hzr ⊢
      generalize (List.replicate (2 : Int).toNat root).flatten = w4 at hr2 ⊢
      refine ⟨_, rfl, fun i ρ μ' => ∃ nm : Bool, Wk ρ [some (scS K ns), none, some (.v (.ref p)), none, none, none, none, some (.d (.list ([wd, w1, w2, [], z ++ iv z].map fun l => .str (TK.Tx l)))), none, some (B nm), none, some (tx wd), some (tx z), some (tx root), none, none] ∧ μ' = μ9, ⟨nm, by walk_at "w", rfl⟩, ?_, fun ρ μ' hI => hI⟩
      rintro i2 s ρ μ10 hi2 ⟨nm2, hw10, rfl⟩
      have hm := List.mem_of_getElem? hi2
      obtain ⟨x, hx, rfl⟩ := List.mem_map.mp hm
      obtain ⟨q, hl, rfl⟩ := List.mem_map.mp hx
      have hgl : good q.1 = true ∧ good q.2 = true := by
        simp only [List.mem_cons, List.not_mem_nil, or_false] at hl
        rcases hl with rfl | rfl | rfl | rfl | rfl | rfl | rfl <;> exact ⟨by assumption, by assumption⟩
      refine gt_wk hw10 ?_
      repeat' walk_at "e"
      refine st_seq (st_if (et_det (b0 := false) ?_ ⟨fun hb => (by cases hb), fun _ => st_next ?_⟩))
      · repeat' walk_at "e"
        refine ⟨rfl, rfl, q.1, q.2, _, rfl, hgl.1, hgl.2, ?_⟩
        exact ⟨_, rfl, rfl, rfl⟩
      · repeat' walk_at "s"
        exact ⟨_, by walk_at "w", rfl⟩
    rintro ρ μ10 ⟨nm2, hw10, rfl⟩
    refine st_wk hw10 ?_
    refine st_if (et_detM (b0 := false) (fun μ' => True) ?_ fun μ11 _ => ⟨fun hb => (by cases hb), fun _ => ?_⟩)
    · repeat' walk_at "e"
      refine ⟨rfl, rfl, p, 0, _, μ0, rfl, hb9, by omega, fun μ11 hb11 => ?_⟩
      exact ⟨_, rfl, rfl, True.intro⟩
    · exact st_le (μ'' := []) ⟨[], List.Perm.refl _, List.nil_sublist _⟩ (st_next ⟨by walk_at "w", rfl⟩)
  rintro ρ μ1 ⟨hw, rfl⟩
  refine st_wk hw ?_
  repeat' walk_at "s"
  exact hR

end
end K

namespace K
open PySem PySem.Spec PyProof.Rows L2 TK
theorem mkH {K : PySem.W.Frag} {h : Heap} {mg : Str → Option Value} (X : K.In h) (G : h.Ns mainGlobals mg) (s : He.SaysD fa fn K) (e : exB K = true) : Hk K mg := ⟨s, e, fun x v c => PySem.W.mg_of X G c, fun x c => PySem.W.mg_none_of X G c⟩
theorem sp_law {K : PySem.W.Frag} {H : Hp} {a : Addr} {ns : List Int} (h : SqL K H a (ns.map V.int)) : SpOf (A_law K) [.ref a] H (fun v _ => v = .bl true) (fun _ _ _ => False) := by
  refine ⟨⟨fun _ => True, fun _ _ => True.intro⟩, [], [], [scS K ns], fun s _ => s = B true, fun _ _ _ => False, ⟨ns, rfl, rfl, rfl⟩, ⟨H, Ex.refl H, ⟨True.intro, .cons ⟨a, rfl, h⟩ .nil⟩, by simp, fun q hq => by cases hq⟩, fun s μ' v H' hs c => ?_, fun _ _ _ _ _ z _ => z.elim⟩
  subst hs
  exact dq_bl c.at.2
theorem funD_uniq {K : PySem.W.Frag} {x q : Str} {params : Arguments} {body : List Stmt} {scope : Scope} {dvs : List V} {kws : List (Str × V)} {f : Addr} {fd fd' : FuncData} (F : FunD K x q params body scope dvs kws f fd) (F' : FunD K x q params body scope dvs kws f fd') : fd = fd' := by
  obtain ⟨_, _, _, _, _, _, _, _, _, _, _, lk, _⟩ := F.ex
  obtain ⟨_, _, _, _, _, _, _, _, _, _, _, lk', _⟩ := F'.ex
  have h := Option.some.inj (lk.symm.trans lk')
  injection h with _ _ h3 _
  injection h3
/-- a law's end over a head by facts, errors told by each world -/
theorem walk_w {l : PySem.W.OpenLaw} {n k : Nat} {q : Program} {loose : List Str} {XP : (Str → Option Value) → Heap → Prop} {YP : World → Heap → Prop} {d : DefRec} {CX : World → CXT} {x : Str}
    (hn : l.most = some n) (hn2 : n ≤ sizeLine) (hdf : d.params.defaults = []) (hr : Room k callerA)
    (F : ∀ (w : World) (mg : Str → Option Value) (fa : Addr) (h : Heap), YP w h → h.Ns mainGlobals mg → mg d.name = some (.ref fa) →
      ∃ (K : PySem.W.Frag) (fd : FuncData) (sp : Sp), K.In h ∧ (∀ (s : Shared) (u : Value), BindsTo s fd ⟨[u], []⟩ [(x, u)]) ∧
        (∀ (H : Hp) (a : Addr) (ns : List Int), SqL K H a (ns.map V.int) → sp [.ref a] H (fun v _ => v = .bl true) fun _ _ _ => False) ∧
        ∀ base : Heap, K.In base → base.Ns mainGlobals mg → FnOk l.prog w K mg base (CX w) k fa fd [x] sp)
    (hCX : ∀ (w : World) (H : Hp) (s : Shared) (e : Value) (s' : Shared), CX w [] H s (fun _ _ _ => False) e s' → False) :
    PySem.W.WalkO q loose XP YP l.row.toRowW d [] (fun f vs => PySem.call f vs) := by
  refine Att.attach_call hn hdf fun w s₀ s₁ mg mb fa o pm cd doc a vs ns G Y ho hd hcd hmg hobj hints hlen hg => ?_
  obtain ⟨K, fd, sp, KX, hb, hsp, hF⟩ := F w mg fa _ Y G.T.g hmg
  exact law_call KX G.T.g G.T.b G.T.builtins G.T.nolimit hg hobj hints (Nat.le_trans hlen hn2) hr hF hb (fun H _ hS => hsp H a ns hS) fun H e s' => hCX w H s₁ e s'
theorem finish {P : Program} {w : World} {K : PySem.W.Frag} {h : Heap} {mg : Str → Option Value} {f : Addr} (X : K.In h) (G : h.Ns mainGlobals mg) (hfa : mg ("law" : Str) = some (.ref f)) (c : He.SaysD fa fn K) (e : exB K = true) :
    ∃ fd : FuncData, (∀ (s : Shared) (v : Value), BindsTo s fd ⟨[v], []⟩ [("script", v)]) ∧ ∀ base : Heap, FnOk P w K mg base (L2.CX P w) 11 f fd ["script"] (SpOf (A_law K)) := by
  have T := mkH X G c e
  obtain ⟨fd, F⟩ := T.dd_law
  have e1 := hfa.symm.trans T.g_law
  cases e1
  have b := FunD.bindsA (ps := ["script"]) F fun _ _ _ _ _ _ us hl => match us, hl with | [_], _ => rfl
  refine ⟨fd, fun s v => b s [v] rfl, fun base => ?_⟩
  obtain ⟨f2, fd2, hm2, F2, G2⟩ := w_law (P := P) (w := w) (base := base) T
  have e2 := hm2.symm.trans hfa
  cases e2
  have e3 := funD_uniq F F2
  subst e3
  exact G2
end K
open PySem PySem.W PySem.Calls PyProof.Rows
theorem PySem.Challenge.cw_stringbench_k73_reduced_signed_words_holds : PySem.Challenge.rw_stringbench_k73_reduced_signed_words.Holds := by
  w_on; o_law
  refine HandSHeadRun.head_any (r := OpenLaw.row PySem.Challenge.rw_stringbench_k73_reduced_signed_words) (q := view (OpenLaw.row PySem.Challenge.rw_stringbench_k73_reduced_signed_words).prog [39]) (H := K.hk) (ob := K.ob) (M := 6000) (loose := K.loose) (d := HandSHeadRun.topDef (OpenLaw.row PySem.Challenge.rw_stringbench_k73_reduced_signed_words).prog 39) (kwd := []) K.ob_eq
    (by kernel_rfl) (fun s => by kernel_rfl) K.run (by kernel_rfl) (by kernel_rfl) (by kernel_rfl) (by rfl) (by first | assumption | decide +kernel) (by decide +kernel) ⟨rfl, rfl, rfl, rfl, rfl, by decide +kernel⟩ ?hw ?hc
  case hw => w_witness2
  case hc =>
    refine K.walk_w (l := PySem.Challenge.rw_stringbench_k73_reduced_signed_words) (n := 63) (k := 11) (x := "script") (CX := fun w => L2.CX (PySem.Challenge.rw_stringbench_k73_reduced_signed_words).prog w) rfl (by decide) (by kernel_rfl) ⟨rfl, by decide, by decide⟩ ?F (fun w H s e s' h => by
      obtain ⟨_, _, _, _, _, _, _, _, _, _, _, _, z⟩ := h
      exact z)
    intro w mg fa h Y G hmg0
    obtain ⟨Kf, KX, c, ce⟩ := Y
    have hmg : mg ("law" : PySem.Str) = some (.ref fa) := by
      have e : (HandSHeadRun.topDef (OpenLaw.row PySem.Challenge.rw_stringbench_k73_reduced_signed_words).prog 39).name = ("law" : PySem.Str) := by kernel_rfl
      rw [← e]
      exact hmg0
    obtain ⟨fd, hb, hF⟩ := K.finish (P := (PySem.Challenge.rw_stringbench_k73_reduced_signed_words).prog) (w := w) KX G hmg c ce
    exact ⟨Kf, fd, TK.SpOf (K.A_law Kf), KX, hb, fun H a ns hS => K.sp_law hS, fun base _ _ => hF base⟩

