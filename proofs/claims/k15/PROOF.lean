import PyProof.Rows.All
import Wide.All
import OpenK.AllK
import Wide.FinOn
import HandS.ForMost
import HandS.Exc
import HandS.TryOnly
import HandS.ExcOwn
import HandS.WordsExc
import HandS.CallSlots
import HandS.IsInst
import HandS.Wide
import HandS.Lambda
import HandS.ExcField
import KE.KDictList
import PyProof.StrWalks
import HandS.TupAny
import HandS.Replace
import HandS.Defaults
import HandS.Codes
import KE.KSuper
import KE.KExcSuper
import HandS.ExcIs
import KE.KExcIs
import HandS.Dict
import PySem.Challenge.RW_allinputs_k15_letters_of_columns
import HandS.EndTab
set_option Elab.async false
set_option linter.all false
set_option maxRecDepth 100000
set_option maxHeartbeats 4000000
set_option autoImplicit false
/-! The data layer: values as trees, the heap out of sight. -/
namespace DL
open PySem PySem.Spec PyProof.Rows L2
abbrev Frag := PySem.W.Frag
abbrev S (l : List Nat) : Str := ⟨l.toArray⟩
/-- a value as a tree; own: a list that one slot alone holds and changes; exc: a caught exception at a, of the class C, its dict dd; thk: a lambda f whose code object is c, made where the slots are σ -/
inductive D where
  | non | bl (b : Bool) | int (i : Int) | str (l : List Nat) | ty (n : String) | ref (a : Addr)
  | pen | lst (xs : List D) | tup (xs : List D) | ins (C : Addr) (ns : List Str) (xs : List D) | own (xs : List D)
  | exc (a C dd : Addr) (ns : List Str) (xs : List D)
  | thk (f c : Addr) (q : Str) (σ : List (Option V)) (δ : List (Option D))
/-- a law's statics: the written part, the tables of code objects -/
structure LC where
  K : Frag
  T : List (Addr × Str)
/-- a law's constants: how the pen's keys are called; where the pen stands, its numbers -/
structure LK where
  L : LC
  ka : Str
  kl : Str
  pn : Addr
  cs : List Int
def names : List (Str × V) → List Str := fun l => l.map (·.1)
mutual
def Is (M : LK) (G : Hp) : V → D → Prop
  | v, .non => v = .non
  | v, .bl b => v = .bl b
  | v, .int i => v = .int i
  | v, .str l => v = .str (S l)
  | v, .ty n => v = .ty n
  | v, .ref a => v = .ref a
  | v, .pen => v = .ref M.pn
  | v, .lst xs => ∃ p vs, v = .ref p ∧ G p = some (.lst vs) ∧ IsL M G vs xs
  | v, .tup xs => ∃ p vs, v = .ref p ∧ SqT M.L.K G p vs ∧ IsL M G vs xs
  | v, .ins C ns xs => ∃ p dx fs, v = .ref p ∧ G p = some (.ins C dx fs) ∧ fs.map (·.1) = ns ∧ IsL M G (fs.map (·.2)) xs
  | _, .own _ => False
  | v, .exc a C dd ns xs => v = .ref a ∧ ∃ fs, G dd = some (.xd fs) ∧ fs.map (·.1) = ns ∧ IsL M G (fs.map (·.2)) xs
  | v, .thk f c q σ δ => v = .ref f ∧ G c = some (LamX.CodeO c q) ∧ IsE M G σ δ
def IsL (M : LK) (G : Hp) : List V → List D → Prop
  | [], [] => True
  | v :: vs, d :: ds => Is M G v d ∧ IsL M G vs ds
  | _, _ => False
def IsE (M : LK) (G : Hp) : List (Option V) → List (Option D) → Prop
  | [], [] => True
  | v :: vs, d :: ds => IsO M G v d ∧ IsE M G vs ds
  | _, _ => False
def IsO (M : LK) (G : Hp) : Option V → Option D → Prop
  | _, none => True
  | some v, some d => Is M G v d
  | none, some _ => False
end
/-- G grows -/
def Ext (G G' : Hp) : Prop := ∀ a o, G a = some o → G' a = some o
theorem Ext.refl (G : Hp) : Ext G G := fun _ _ h => h
theorem Ext.trans {G G1 G2 : Hp} (a : Ext G G1) (b : Ext G1 G2) : Ext G G2 := fun c o h => b c o (a c o h)
theorem Ext.new {G : Hp} {p : Addr} {o : HO} (h : G p = none) : Ext G (upd G p o) := fun a u e => by
  rw [upd_ne (ne_of_none e h)]
  exact e
theorem Ext.seqT {K : Frag} {G G' : Hp} {a : Addr} {xs : List V} (e : Ext G G') (h : SqT K G a xs) : SqT K G' a xs := by
  rcases h with (h | ⟨o, h⟩) | h
  · exact .inl (.inl (e _ _ h))
  · exact .inl (.inr ⟨o, e _ _ h⟩)
  · exact .inr h
theorem Ext.seqL {K : Frag} {G G' : Hp} {a : Addr} {xs : List V} (e : Ext G G') (h : SqL K G a xs) : SqL K G' a xs := by
  rcases h with (h | ⟨o, h⟩) | h
  · exact .inl (.inl (e _ _ h))
  · exact .inl (.inr ⟨o, e _ _ h⟩)
  · exact .inr h
mutual
theorem Is.up {M : LK} {G G' : Hp} (e : Ext G G') : ∀ (d : D) (v : V), Is M G v d → Is M G' v d
  | .non, _, h => h
  | .bl _, _, h => h
  | .int _, _, h => h
  | .str _, _, h => h
  | .ty _, _, h => h
  | .ref _, _, h => h
  | .pen, _, h => h
  | .lst xs, v, h => by
    simp only [Is] at h ⊢
    obtain ⟨p, vs, h1, h2, h3⟩ := h
    exact ⟨p, vs, h1, e _ _ h2, IsL.up e xs vs h3⟩
  | .tup xs, v, h => by
    simp only [Is] at h ⊢
    obtain ⟨p, vs, h1, h2, h3⟩ := h
    exact ⟨p, vs, h1, e.seqT h2, IsL.up e xs vs h3⟩
  | .ins C ns xs, v, h => by
    simp only [Is] at h ⊢
    obtain ⟨p, dx, fs, h1, h2, h3, h4⟩ := h
    exact ⟨p, dx, fs, h1, e _ _ h2, h3, IsL.up e xs _ h4⟩
  | .own _, _, h => by simp only [Is] at h
  | .exc a C dd ns xs, v, h => by
    simp only [Is] at h ⊢
    obtain ⟨h1, fs, h2, h3, h4⟩ := h
    exact ⟨h1, fs, e _ _ h2, h3, IsL.up e xs _ h4⟩
  | .thk f c q σ δ, v, h => by
    simp only [Is] at h ⊢
    exact ⟨h.1, e _ _ h.2.1, IsE.up e δ σ h.2.2⟩
theorem IsL.up {M : LK} {G G' : Hp} (e : Ext G G') : ∀ (ds : List D) (vs : List V), IsL M G vs ds → IsL M G' vs ds
  | [], [], _ => by simp only [IsL]
  | d :: ds, v :: vs, h => by
    simp only [IsL] at h ⊢
    exact ⟨Is.up e d v h.1, IsL.up e ds vs h.2⟩
  | [], _ :: _, h => by simp only [IsL] at h
  | _ :: _, [], h => by simp only [IsL] at h
theorem IsE.up {M : LK} {G G' : Hp} (e : Ext G G') : ∀ (ds : List (Option D)) (vs : List (Option V)), IsE M G vs ds → IsE M G' vs ds
  | [], [], _ => by simp only [IsE]
  | d :: ds, v :: vs, h => by
    simp only [IsE] at h ⊢
    exact ⟨IsO.up e d v h.1, IsE.up e ds vs h.2⟩
  | [], _ :: _, h => by simp only [IsE] at h
  | _ :: _, [], h => by simp only [IsE] at h
theorem IsO.up {M : LK} {G G' : Hp} (e : Ext G G') : ∀ (d : Option D) (v : Option V), IsO M G v d → IsO M G' v d
  | none, _, _ => by simp only [IsO]
  | some d, some v, h => by
    simp only [IsO] at h ⊢
    exact Is.up e d v h
  | some _, none, h => by simp only [IsO] at h
end
theorem IsL.length {M : LK} {G : Hp} : ∀ {ds : List D} {vs : List V}, IsL M G vs ds → vs.length = ds.length
  | [], [], _ => rfl
  | d :: ds, v :: vs, h => by
    simp only [IsL] at h
    simp only [List.length_cons, IsL.length h.2]
  | [], _ :: _, h => by simp only [IsL] at h
  | _ :: _, [], h => by simp only [IsL] at h
theorem IsL.get {M : LK} {G : Hp} : ∀ {ds : List D} {vs : List V} {i : Nat} {d : D}, IsL M G vs ds → ds[i]? = some d → ∃ v, vs[i]? = some v ∧ Is M G v d
  | [], [], i, d, _, e => by simp at e
  | x :: ds, v :: vs, 0, d, h, e => by
    simp only [IsL] at h
    simp at e
    subst e
    exact ⟨v, rfl, h.1⟩
  | x :: ds, v :: vs, i + 1, d, h, e => by
    simp only [IsL] at h
    obtain ⟨u, h1, h2⟩ := IsL.get (i := i) h.2 (by simpa using e)
    exact ⟨u, by simpa using h1, h2⟩
  | [], _ :: _, _, _, h, _ => by simp only [IsL] at h
  | _ :: _, [], _, _, h, _ => by simp only [IsL] at h
theorem IsL.append {M : LK} {G : Hp} : ∀ {ds es : List D} {vs us : List V}, IsL M G vs ds → IsL M G us es → IsL M G (vs ++ us) (ds ++ es)
  | [], _, [], _, _, g => g
  | d :: ds, es, v :: vs, us, h, g => by
    simp only [IsL, List.cons_append] at h ⊢
    exact ⟨h.1, IsL.append h.2 g⟩
  | [], _, _ :: _, _, h, _ => by simp only [IsL] at h
  | _ :: _, _, [], _, h, _ => by simp only [IsL] at h
theorem IsL.take {M : LK} {G : Hp} : ∀ {ds : List D} {vs : List V} (n : Nat), IsL M G vs ds → IsL M G (vs.take n) (ds.take n)
  | _, _, 0, _ => by simp only [List.take_zero, IsL]
  | [], [], n + 1, _ => by simp only [List.take_nil, IsL]
  | d :: ds, v :: vs, n + 1, h => by
    simp only [IsL, List.take_succ_cons] at h ⊢
    exact ⟨h.1, IsL.take n h.2⟩
  | [], _ :: _, _ + 1, h => by simp only [IsL] at h
  | _ :: _, [], _ + 1, h => by simp only [IsL] at h
theorem IsL.drop {M : LK} {G : Hp} : ∀ {ds : List D} {vs : List V} (n : Nat), IsL M G vs ds → IsL M G (vs.drop n) (ds.drop n)
  | _, _, 0, h => h
  | [], [], n + 1, _ => by simp only [List.drop_nil, IsL]
  | d :: ds, v :: vs, n + 1, h => by
    simp only [IsL, List.drop_succ_cons] at h ⊢
    exact IsL.drop n h.2
  | [], _ :: _, _ + 1, h => by simp only [IsL] at h
  | _ :: _, [], _ + 1, h => by simp only [IsL] at h
/-- the pen: a dict of three entries; at below n -/
structure PenOk (K : Frag) (ka kl : Str) (cs : List Int) (pn : Addr) (n : Nat) (G H : Hp) : Prop where
  ob : ∃ (la : Addr) (ns : List Int) (a l : Int), H pn = some (.dK [(.inr "cells", .ref la), (.inr ka, .int a), (.inr kl, .int l)]) ∧ G la = some (.lst (ns.map V.int)) ∧ ns.length ≤ 63 ∧ 0 ≤ a ∧ a ≤ n ∧ 0 ≤ l ∧ ns = cs
  fr : G pn = none
def notTbl (o : HO) : Prop := ∀ ps, o ≠ .tbl ps
/-- what a slot holds -/
def SIs (M : LK) (G H : Hp) (v : V) (d : D) : Prop := Is M G v d ∨ ∃ xs p vs, d = .own xs ∧ v = .ref p ∧ H p = some (.lst vs) ∧ G p = none ∧ IsL M G vs xs
structure EnvIs (M : LK) (G : Hp) (σ : L2.St) (δ : List (Option D)) (H : Hp) : Prop where
  len : σ.length = δ.length
  at_ : ∀ (i : Nat) (d : D), δ[i]? = some (some d) → ∃ v, σ[i]? = some (some v) ∧ SIs M G H v d
  ap : ∀ (i j : Nat) (p : Addr) (xs ys : List D), i ≠ j → δ[i]? = some (some (.own xs)) → δ[j]? = some (some (.own ys)) → σ[i]? = some (some (.ref p)) → σ[j]? ≠ some (some (.ref p))
structure Rep (M : LK) (pn : Addr) (G : Hp) (n : Nat) (σ : L2.St) (δ : List (Option D)) (H : Hp) : Prop where
  ex : Ext G H
  pen : PenOk M.L.K M.ka M.kl M.cs pn n G H
  tab : LamX.Tabs M.L.T H
  nt : ∀ a o, G a = some o → notTbl o
  pe : pn = M.pn
  env : EnvIs M G σ δ H
/-- what may be changed in place -/
def mutO (o : HO) : Prop := (∃ xs, o = .lst xs) ∨ ∃ kvs, o = .dK kvs
theorem mutO.nt {o : HO} (h : mutO o) : notTbl o := fun ps z => by
  rcases h with ⟨xs, rfl⟩ | ⟨kvs, rfl⟩ <;> cases z
theorem mut_lst {xs : List V} : mutO (.lst xs) := .inl ⟨xs, rfl⟩
theorem mut_dK {kvs : List (Key × V)} : mutO (.dK kvs) := .inr ⟨kvs, rfl⟩
/-- from (G, H) on to (G', H') -/
structure Adv (pn : Addr) (G H G' H' : Hp) : Prop where
  ge : Ext G G'
  gn : ∀ b o, H b = some o → mutO o → G b = none → G' b = none
  fr : ∀ b o, H b = some o → notTbl o → b ≠ pn → H' b = some o
  pk : (∃ kvs, H pn = some (.dK kvs)) → ∃ kvs, H' pn = some (.dK kvs)
theorem Adv.refl {pn : Addr} {G H : Hp} : Adv pn G H G H := ⟨Ext.refl _, fun _ _ _ _ h => h, fun _ _ h _ _ => h, fun h => h⟩
theorem notTbl_dK {kvs : List (Key × V)} : notTbl (.dK kvs) := fun ps z => by cases z
theorem Adv.trans {pn : Addr} {G H G1 H1 G2 H2 : Hp} (a : Adv pn G H G1 H1) (hp : ∃ kvs, H pn = some (.dK kvs)) (b : Adv pn G1 H1 G2 H2) : Adv pn G H G2 H2 where
  ge := a.ge.trans b.ge
  gn := fun c o h1 h2 h3 => by
    by_cases e : c = pn
    · subst e
      obtain ⟨kvs, hk⟩ := a.pk hp
      obtain ⟨kvs0, hk0⟩ := hp
      exact b.gn _ _ hk mut_dK (a.gn _ _ hk0 mut_dK h3)
    · exact b.gn c o (a.fr c o h1 h2.nt e) h2 (a.gn c o h1 h2 h3)
  fr := fun c o h1 h2 h3 => b.fr c o (a.fr c o h1 h2 h3) h2 h3
  pk := fun h => b.pk (a.pk h)
section
variable {M : LK} {pn : Addr} {G G' H H' : Hp} {n n' : Nat} {σ : L2.St} {δ : List (Option D)}
theorem Rep.hp (R : Rep M pn G n σ δ H) : ∃ kvs, H pn = some (.dK kvs) := by
  obtain ⟨la, ns, a, l, h, _⟩ := R.pen.ob
  exact ⟨_, h⟩
theorem Rep.tr (R : Rep M pn G n σ δ H) {G1 H1 : Hp} (a : Adv pn G H G' H') (b : Adv pn G' H' G1 H1) : Adv pn G H G1 H1 := a.trans R.hp b
theorem notTbl_lst {xs : List V} : notTbl (.lst xs) := fun ps z => by cases z
theorem SIs.up {v : V} {d : D} (hn : ∀ b o, H b = some o → mutO o → G b = none → G' b = none) (ge : Ext G G') (fr : ∀ p vs, H p = some (.lst vs) → H' p = some (.lst vs)) (h : SIs M G H v d) : SIs M G' H' v d := by
  rcases h with h | ⟨xs, p, vs, rfl, rfl, h1, h2, h3⟩
  · exact .inl (Is.up ge d v h)
  · exact .inr ⟨xs, p, vs, rfl, rfl, fr p vs h1, hn p _ h1 mut_lst h2, IsL.up ge xs vs h3⟩
theorem EnvIs.up (A : Adv pn G H G' H') (hp : ∃ kvs, H pn = some (.dK kvs)) (E : EnvIs M G σ δ H) : EnvIs M G' σ δ H' where
  len := E.len
  at_ := fun i d e => by
    obtain ⟨v, h1, h2⟩ := E.at_ i d e
    refine ⟨v, h1, h2.up A.gn A.ge fun p vs hl => A.fr p _ hl notTbl_lst fun z => ?_⟩
    subst z
    obtain ⟨kvs, hk⟩ := hp
    rw [hl] at hk
    cases hk
  ap := E.ap
/-- a new object is laid -/
theorem Rep.lay {p : Addr} {o : HO} (R : Rep M pn G n σ δ H) (h : H p = none) (ho : notTbl o) : Rep M pn (upd G p o) n σ δ (upd H p o) ∧ Adv pn G H (upd G p o) (upd H p o) := by
  have gp : G p = none := by
    cases e : G p with
    | none => rfl
    | some u => rw [R.ex _ _ e] at h; cases h
  obtain ⟨kvs, hk⟩ := R.hp
  have np : pn ≠ p := ne_of_none hk h
  have A : Adv pn G H (upd G p o) (upd H p o) := ⟨Ext.new gp, fun b u h1 _ h2 => by rw [upd_ne (ne_of_none h1 h)]; exact h2, fun b u h1 _ _ => by rw [upd_ne (ne_of_none h1 h)]; exact h1, fun ⟨k, e⟩ => ⟨k, by rw [upd_ne np]; exact e⟩⟩
  refine ⟨⟨fun a u e => ?_, ⟨?_, by rw [upd_ne np]; exact R.pen.fr⟩, R.tab.ext fun b u e => by rw [upd_ne (ne_of_none e h)]; exact e, fun a u e => ?_, R.pe, R.env.up A R.hp⟩, A⟩
  · by_cases z : a = p
    · subst z; rw [upd_same] at e ⊢; exact e
    · rw [upd_ne z] at e ⊢; exact R.ex _ _ e
  · obtain ⟨la, ns, a, l, h1, h2, h3⟩ := R.pen.ob
    exact ⟨la, ns, a, l, by rw [upd_ne np]; exact h1, by rw [upd_ne (ne_of_none h2 gp)]; exact h2, h3⟩
  · by_cases z : a = p
    · subst z; rw [upd_same] at e; cases e; exact ho
    · rw [upd_ne z] at e; exact R.nt _ _ e
theorem notTbl_tup {xs : List V} : notTbl (.tup xs) := fun ps z => by cases z
/-- the same under more draws -/
theorem Rep.more (R : Rep M pn G n σ δ H) (h : n ≤ n') : Rep M pn G n' σ δ H := by
  obtain ⟨la, ns, a, l, h1, h2, h3, h4, h5, h6⟩ := R.pen.ob
  exact ⟨R.ex, ⟨⟨la, ns, a, l, h1, h2, h3, h4, by omega, h6⟩, R.pen.fr⟩, R.tab, R.nt, R.pe, R.env⟩
theorem getO {α : Type} {l : List (Option α)} {i : Nat} {x : Option α} {y : Option α} (h : (l.set i x)[i]? = some y) : y = x := by
  by_cases hi : i < l.length
  · rw [List.getElem?_set_self hi] at h
    exact (Option.some.inj h).symm
  · rw [List.getElem?_eq_none (by simp; omega)] at h
    cases h
/-- a slot is stored -/
theorem EnvIs.set {i : Nat} {v : V} {d : D} (E : EnvIs M G σ δ H) (h : Is M G v d) : EnvIs M G (σ.set i (some v)) (δ.set i (some d)) H where
  len := by simp [E.len]
  at_ := fun j x e => by
    by_cases hj : i = j
    · subst hj
      have e' := getO e
      cases e'
      have hi : i < σ.length := by
        rw [E.len]
        by_cases q : i < δ.length
        · exact q
        · rw [List.getElem?_eq_none (by simp; omega)] at e
          cases e
      exact ⟨v, List.getElem?_set_self hi, .inl h⟩
    · rw [List.getElem?_set_ne hj] at e ⊢
      exact E.at_ j x e
  ap := fun j k p xs ys hjk e1 e2 e3 => by
    have nown : ∀ j xs, (δ.set i (some d))[j]? = some (some (.own xs)) → i ≠ j := fun j xs e z => by
      subst z
      have e' := getO e
      cases e'
      simp only [Is] at h
    have n1 := nown _ _ e1
    have n2 := nown _ _ e2
    rw [List.getElem?_set_ne n1] at e1 e3
    rw [List.getElem?_set_ne n2] at e2 ⊢
    exact E.ap j k p xs ys hjk e1 e2 e3
theorem EnvIs.get {i : Nat} {d : D} (E : EnvIs M G σ δ H) (h : δ[i]? = some (some d)) (nd : ∀ xs, d ≠ .own xs) : ∃ v, σ[i]? = some (some v) ∧ Is M G v d := by
  obtain ⟨v, h1, h2⟩ := E.at_ i d h
  rcases h2 with h2 | ⟨xs, _, _, e, _⟩
  · exact ⟨v, h1, h2⟩
  · exact absurd e (nd xs)
end
/-! ### the readings -/
abbrev DEnv := List (Option D)
/-- an exception: its class, its fields -/
abbrev DX := List (Option D) → Addr → List Str → List D → Nat → Prop
abbrev DTE := DEnv → Nat → (D → Nat → Prop) → DX → Prop
abbrev DTT := DEnv → Nat → (Bool → Nat → Prop) → DX → Prop
abbrev DTA := DEnv → Nat → (List D → Nat → Prop) → DX → Prop
structure DEnds where
  nx : DEnv → Nat → Prop
  rt : D → Nat → Prop
  bk : DEnv → Nat → Prop := fun _ _ => False
  ct : DEnv → Nat → Prop := fun _ _ => False
  ex : DX := fun _ _ _ _ _ => False
abbrev DTS := DEnds → DEnv → Nat → Prop
/-- the dict at a of an exception -/
def XIs (M : LK) (G : Hp) (a : Addr) (ns : List Str) (ds : List D) : Prop := ∃ fs, G a = some (.xd fs) ∧ fs.map (·.1) = ns ∧ IsL M G (fs.map (·.2)) ds
def XEnd (M : LK) (W : WX) (pn : Addr) (G : Hp) (σ : L2.St) (δ : DEnv) (H : Hp) (e : DX) : Prop :=
  ∀ G' C a ns ds n' H', Adv pn G H G' H' → Rep M pn G' n' σ δ H' → XIs M G' a ns ds → e δ C ns ds n' → W (.ref C) (some a) σ H'
def liftE (M : LK) (W : WX) (f : DTE) : TE := fun σ H Q => ∃ pn G n δ q e, Rep M pn G n σ δ H ∧ f δ n q e ∧
  (∀ G' v d n' H', Adv pn G H G' H' → Rep M pn G' n' σ δ H' → Is M G' v d → q d n' → Q v H') ∧ XEnd M W pn G σ δ H e
def liftT (M : LK) (W : WX) (f : DTT) : TT := fun σ H Q => ∃ pn G n δ q e, Rep M pn G n σ δ H ∧ f δ n q e ∧
  (∀ G' b n' H', Adv pn G H G' H' → Rep M pn G' n' σ δ H' → q b n' → Q b H') ∧ XEnd M W pn G σ δ H e
def liftA (M : LK) (W : WX) (f : DTA) : TA := fun σ H Q => ∃ pn G n δ q e, Rep M pn G n σ δ H ∧ f δ n q e ∧
  (∀ G' vs ds n' H', Adv pn G H G' H' → Rep M pn G' n' σ δ H' → IsL M G' vs ds → q ds n' → Q vs H') ∧ XEnd M W pn G σ δ H e
structure SEnd (M : LK) (W : WX) (pn : Addr) (G : Hp) (H : Hp) (D₀ : Ends) (k : DEnds) : Prop where
  nx : ∀ G' σ' δ' n' H', Adv pn G H G' H' → Rep M pn G' n' σ' δ' H' → k.nx δ' n' → D₀.nx σ' H'
  rt : ∀ G' σ' δ' v d n' H', Adv pn G H G' H' → Rep M pn G' n' σ' δ' H' → Is M G' v d → k.rt d n' → D₀.rt v H'
  bk : ∀ G' σ' δ' n' H', Adv pn G H G' H' → Rep M pn G' n' σ' δ' H' → k.bk δ' n' → D₀.bk σ' H'
  ct : ∀ G' σ' δ' n' H', Adv pn G H G' H' → Rep M pn G' n' σ' δ' H' → k.ct δ' n' → D₀.ct σ' H'
  ex : ∀ G' σ' δ' C a ns ds n' H', Adv pn G H G' H' → Rep M pn G' n' σ' δ' H' → XIs M G' a ns ds → k.ex δ' C ns ds n' → W (.ref C) (some a) σ' H'
def liftS (M : LK) (W : WX) (f : DTS) : TS := fun D₀ σ H => ∃ pn G n δ k, Rep M pn G n σ δ H ∧ f k δ n ∧ SEnd M W pn G H D₀ k
/-- weakening -/
theorem PEw {X : Cx} {e : Expr} {t t' : TE} (h : PE X e t) (w : ∀ σ H Q, t' σ H Q → t σ H Q) : PE X e t' := ⟨fun pins s σ H Q I q => h.run pins s σ H Q I (w _ _ _ q)⟩
theorem PTw {X : Cx} {e : Expr} {t t' : TT} (h : PT X e t) (w : ∀ σ H Q, t' σ H Q → t σ H Q) : PT X e t' := ⟨fun pins s σ H Q I q => h.run pins s σ H Q I (w _ _ _ q)⟩
theorem PAw {X : Cx} {e : List Expr} {t t' : TA} (h : PA X e t) (w : ∀ σ H Q, t' σ H Q → t σ H Q) : PA X e t' := ⟨fun pos pins s σ H Q I q => h.run pos pins s σ H Q I (w _ _ _ q)⟩
theorem PSw {X : Cx} {e : Stmt} {t t' : TS} (h : PS X e t) (w : ∀ D σ H, t' D σ H → t D σ H) : PS X e t' := ⟨fun pins s σ H D I q => h.run pins s σ H D I (w _ _ _ q)⟩
theorem PSsw {X : Cx} {e : List Stmt} {t t' : TS} (h : PSs X e t) (w : ∀ D σ H, t' D σ H → t D σ H) : PSs X e t' := ⟨fun pins s σ H D I q => h.run pins s σ H D I (w _ _ _ q)⟩
theorem XEnd.on {M : LK} {W : WX} {pn : Addr} {G G1 : Hp} {σ : L2.St} {δ : DEnv} {n : Nat} {H H1 : Hp} {e : DX} (x : XEnd M W pn G σ δ H e) (R : Rep M pn G n σ δ H) (A : Adv pn G H G1 H1) : XEnd M W pn G1 σ δ H1 e :=
  fun G' C a ns ds n' H' A' R' h q => x G' C a ns ds n' H' (R.tr A A') R' h q
end DL

set_option Elab.async false
set_option linter.all false
set_option maxRecDepth 100000
set_option maxHeartbeats 4000000
set_option autoImplicit false
/-! The data layer: expressions. -/
namespace DL
open PySem PySem.Spec PyProof.Rows L2
/-! ### arguments that are no stars -/
def noStar : Expr → Bool
  | .Starred .. => false
  | _ => true
theorem starEach_cons {e : Expr} {es : List Expr} {env : Env} (h : noStar e = true) : starEach (e :: es) env = (false, eval e env) :: starEach es env := by
  cases e <;> first | rfl | cases h
/-! ### names and constants -/
def dGet (o : Option (Option D)) (q : D → Prop) : Prop := match o with
  | some (some (.own _)) => False
  | some (some d) => q d
  | _ => False
theorem dGet_some {o : Option (Option D)} {q : D → Prop} (h : dGet o q) : ∃ d, o = some (some d) ∧ (∀ xs, d ≠ .own xs) ∧ q d := by
  cases o with
  | none => exact h.elim
  | some o =>
    cases o with
    | none => exact h.elim
    | some d =>
      cases d <;> first
        | exact ⟨_, rfl, fun xs z => (by cases z), h⟩
        | exact ⟨_, rfl, (by intro xs z; cases z), h⟩
        | exact False.elim h
def dVar (i : Nat) : DTE := fun δ n q _ => dGet δ[i]? fun d => q d n
def dC (d : D) : DTE := fun _ n q _ => q d n
section
variable {X : Cx} {M : LK} {W : WX}
theorem Rep.slot {pn : Addr} {G H : Hp} {n : Nat} {σ : L2.St} {δ : DEnv} {i : Nat} {q : D → Prop} (R : Rep M pn G n σ δ H) (h : dGet δ[i]? q) : ∃ v d, σ[i]? = some (some v) ∧ Is M G v d ∧ q d := by
  obtain ⟨d, e, nd, hq⟩ := dGet_some h
  obtain ⟨v, h1, h2⟩ := R.env.get e nd
  exact ⟨v, d, h1, h2, hq⟩
theorem dp_var {e : Expr} {i : Nat} (h : PE X e (tVar i)) : PE X e (liftE M W (dVar i)) := PEw h fun σ H Q ⟨pn, G, n, δ, q, ex, R, hf, hQ, _⟩ => by
  obtain ⟨v, d, h1, h2, hq⟩ := R.slot hf
  exact ⟨v, h1, hQ G v d n H Adv.refl R h2 hq⟩
theorem dp_c {e : Expr} {v : V} {d : D} (h : PE X e (tC v)) (hi : ∀ G, Is M G v d) : PE X e (liftE M W (dC d)) := PEw h fun σ H Q ⟨pn, G, n, δ, q, ex, R, hf, hQ, _⟩ => hQ G v d n H Adv.refl R (hi G) hf
theorem dp_int {i : Int} {j : Nat} {pos : Pos} : PE X (.Constant (.int i) j pos) (liftE M W (dC (.int i))) := dp_c pe_int fun _ => by simp only [Is]
theorem dp_bl {b : Bool} {j : Nat} {pos : Pos} : PE X (.Constant (.bool b) j pos) (liftE M W (dC (.bl b))) := dp_c pe_bl fun _ => by simp only [Is]
theorem dp_non {j : Nat} {pos : Pos} : PE X (.Constant .none j pos) (liftE M W (dC .non)) := dp_c pe_non fun _ => by simp only [Is]
theorem dp_str {x : Str} (l : List Nat) {j : Nat} {pos : Pos} (h : x = S l := by decide +kernel) : PE X (.Constant (.str x) j pos) (liftE M W (dC (.str l))) := dp_c pe_str fun _ => by simp only [Is]; rw [h]
/-! ### binary operations -/
def DR2 (M : LK) (r : R2) (g : D → D → Nat → (D → Nat → Prop) → Prop) : Prop := ∀ (pn : Addr) (G : Hp) (n : Nat) (σ : L2.St) (δ : DEnv) (H : Hp) (v u : V) (x y : D) (q : D → Nat → Prop) (Q : VK), Rep M pn G n σ δ H → Is M G v x → Is M G u y → g x y n q →
  (∀ G' w d n' H', Adv pn G H G' H' → Rep M pn G' n' σ δ H' → Is M G' w d → q d n' → Q w H') → r v u H Q
def dOp (g : D → D → Nat → (D → Nat → Prop) → Prop) (fa fb : DTE) : DTE := fun δ n q e => fa δ n (fun x n1 => fb δ n1 (fun y n2 => g x y n2 q) e) e
theorem liftE_bin {r : R2} {g : D → D → Nat → (D → Nat → Prop) → Prop} {fa fb : DTE} (hr : DR2 M r g) (σ : L2.St) (H : Hp) (Q : VK) (h : liftE M W (dOp g fa fb) σ H Q) : tOp r (liftE M W fa) (liftE M W fb) σ H Q := by
  obtain ⟨pn, G, n, δ, q, e, R, hf, hQ, hX⟩ := h
  refine ⟨pn, G, n, δ, _, e, R, hf, fun G1 v x n1 H1 A1 R1 i1 h1 => ?_, hX⟩
  refine ⟨pn, G1, n1, δ, _, e, R1, h1, fun G2 u y n2 H2 A2 R2 i2 h2 => ?_, hX.on R A1⟩
  exact hr pn G2 n2 σ δ H2 v u x y q Q R2 (Is.up A2.ge x v i1) i2 h2 fun G3 w d n3 H3 A3 R3 i3 h3 => hQ G3 w d n3 H3 (R.tr (R.tr A1 A2) A3) R3 i3 h3
theorem dp_op {a b : Expr} {op : Operator} {pos : Pos} {r : R2} {g : D → D → Nat → (D → Nat → Prop) → Prop} {fa fb : DTE} (ho : OpR X (binaryOp op) r) (hr : DR2 M r g) (ha : PE X a (liftE M W fa)) (hb : PE X b (liftE M W fb)) : PE X (.BinOp a op b pos) (liftE M W (dOp g fa fb)) :=
  PEw (pe_op ho ha hb) (liftE_bin hr)
theorem dp_cmp {a b : Expr} {op : CmpOp} {pos : Pos} {r : R2} {g : D → D → Nat → (D → Nat → Prop) → Prop} {fa fb : DTE} (ho : OpR X (compareOp op) r) (hr : DR2 M r g) (ha : PE X a (liftE M W fa)) (hb : PE X b (liftE M W fb)) (hm : behindInMarks op b = false) : PE X (.Compare a [op] [b] pos) (liftE M W (dOp g fa fb)) :=
  PEw (pe_cmpR ho ha hb hm) (liftE_bin hr)
/-- a test: the value is a truth -/
def dTest (f : DTE) : DTT := fun δ n q e => f δ n (fun d n1 => match d with | .bl b => q b n1 | _ => False) e
theorem liftT_test {f : DTE} {t : TE} (ht : ∀ σ H Q, liftE M W f σ H Q → t σ H Q) (σ : L2.St) (H : Hp) (Q : Bool → Hp → Prop) (h : liftT M W (dTest f) σ H Q) : t σ H fun x H' => ∃ k, x = .bl k ∧ Q k H' := by
  obtain ⟨pn, G, n, δ, q, e, R, hf, hQ, hX⟩ := h
  refine ht _ _ _ ⟨pn, G, n, δ, _, e, R, hf, fun G1 v d n1 H1 A1 R1 i1 h1 => ?_, hX⟩
  cases d with
  | bl b =>
    simp only [Is] at i1
    exact ⟨b, i1, hQ G1 b n1 H1 A1 R1 h1⟩
  | _ => exact h1.elim
theorem dt_cmp {a b : Expr} {op : CmpOp} {pos : Pos} {r : R2} {g : D → D → Nat → (D → Nat → Prop) → Prop} {fa fb : DTE} (ho : OpR X (compareOp op) r) (hr : DR2 M r g) (ha : PE X a (liftE M W fa)) (hb : PE X b (liftE M W fb)) (hm : behindInMarks op b = false) : PT X (.Compare a [op] [b] pos) (liftT M W (dTest (dOp g fa fb))) :=
  PTw (pt_cmpR ho ha hb hm) (liftT_test (liftE_bin hr))
theorem dt_val {e : Expr} {f : DTE} (h : PE X e (liftE M W f)) (he : ∀ whole, isTrue e X.env whole = (do let v ← whole; standAt e.pos; holding [v] (truthy v)) := by intro _; rfl) : PT X e (liftT M W (dTest f)) :=
  PTw (pt_val h he) (liftT_test fun _ _ _ h => h)
/-! ### chains -/
def dChain (g g' : D → D → Nat → (D → Nat → Prop) → Prop) (fa fb fc : DTE) : DTE := fun δ n q e => fa δ n (fun x n1 => fb δ n1 (fun y n2 => g x y n2 fun z n3 => match z with
  | .bl true => fc δ n3 (fun w n4 => g' y w n4 q) e
  | .bl false => q (.bl false) n3
  | _ => False) e) e
theorem liftE_chain {r r' : R2} {g g' : D → D → Nat → (D → Nat → Prop) → Prop} {fa fb fc : DTE} (hr : DR2 M r g) (hr' : DR2 M r' g') (σ : L2.St) (H : Hp) (Q : VK) (h : liftE M W (dChain g g' fa fb fc) σ H Q) :
    tChain r r' (liftE M W fa) (liftE M W fb) (liftE M W fc) σ H Q := by
  obtain ⟨pn, G, n, δ, q, e, R, hf, hQ, hX⟩ := h
  refine ⟨pn, G, n, δ, _, e, R, hf, fun G1 v x n1 H1 A1 R1 i1 h1 => ?_, hX⟩
  refine ⟨pn, G1, n1, δ, _, e, R1, h1, fun G2 u y n2 H2 A2 R2 i2 h2 => ?_, hX.on R A1⟩
  have A12 := R.tr A1 A2
  refine hr pn G2 n2 σ δ H2 v u x y _ _ R2 (Is.up A2.ge x v i1) i2 h2 fun G3 w d n3 H3 A3 R3 i3 h3 => ?_
  cases d with
  | bl b =>
    simp only [Is] at i3
    refine ⟨b, i3, ?_⟩
    cases b with
    | true =>
      refine iteT ?_
      refine ⟨pn, G3, n3, δ, _, e, R3, h3, fun G4 w' d' n4 H4 A4 R4 i4 h4 => ?_, hX.on R (R.tr A12 A3)⟩
      exact hr' pn G4 n4 σ δ H4 u w' y d' q Q R4 (Is.up (A3.ge.trans A4.ge) y u i2) i4 h4 fun G5 w5 d5 n5 H5 A5 R5 i5 h5 => hQ G5 w5 d5 n5 H5 (R.tr (R.tr (R.tr A12 A3) A4) A5) R5 i5 h5
    | false => exact iteF (hQ G3 (.bl false) (.bl false) n3 H3 (R.tr A12 A3) R3 (by simp only [Is]) h3)
  | _ => exact h3.elim
theorem dp_chain {a b c : Expr} {op op' : CmpOp} {pos : Pos} {r r' : R2} {g g' : D → D → Nat → (D → Nat → Prop) → Prop} {fa fb fc : DTE} (ho : OpR X (compareOp op) r) (hr : DR2 M r g) (ho' : OpR X (compareOp op') r') (hr' : DR2 M r' g')
    (ha : PE X a (liftE M W fa)) (hb : PE X b (liftE M W fb)) (hc : PE X c (liftE M W fc)) (hm : lastMarks [op, op'] [b, c] = false := by with_unfolding_all rfl) : PE X (.Compare a [op, op'] [b, c] pos) (liftE M W (dChain g g' fa fb fc)) :=
  PEw (pe_chain ho ho' ha hb hc hm) (liftE_chain hr hr')
theorem dt_chain {a b c : Expr} {op op' : CmpOp} {pos : Pos} {r r' : R2} {g g' : D → D → Nat → (D → Nat → Prop) → Prop} {fa fb fc : DTE} (ho : OpR X (compareOp op) r) (hr : DR2 M r g) (ho' : OpR X (compareOp op') r') (hr' : DR2 M r' g')
    (ha : PE X a (liftE M W fa)) (hb : PE X b (liftE M W fb)) (hc : PE X c (liftE M W fc)) (hm : lastMarks [op, op'] [b, c] = false := by with_unfolding_all rfl) : PT X (.Compare a [op, op'] [b, c] pos) (liftT M W (dTest (dChain g g' fa fb fc))) :=
  PTw (pt_chain ho ho' ha hb hc hm) (liftT_test (liftE_chain hr hr'))
/-! ### and, or, not -/
def dAnd (f g : DTT) : DTT := fun δ n q e => f δ n (fun b n1 => match b with | true => g δ n1 q e | false => q false n1) e
def dOr (f g : DTT) : DTT := fun δ n q e => f δ n (fun b n1 => match b with | true => q true n1 | false => g δ n1 q e) e
def dNot (f : DTT) : DTT := fun δ n q e => f δ n (fun b n1 => q (!b) n1) e
theorem PWw {X : Cx} {e : Expr} {t t' : TT} (h : PW X e t) (w : ∀ σ H Q, t' σ H Q → t σ H Q) : PW X e t' := ⟨fun wh pins s σ H Q I q => h.run wh pins s σ H Q I (w _ _ _ q)⟩
theorem dw_and1 {a : Expr} {pos : Pos} {f : DTT} (ha : PT X a (liftT M W f)) : PW X (.BoolOp .And [a] pos) (liftT M W f) := pw_and1 ha
theorem dw_or1 {a : Expr} {pos : Pos} {f : DTT} (ha : PT X a (liftT M W f)) : PW X (.BoolOp .Or [a] pos) (liftT M W f) := pw_or1 ha
theorem dw_and {a b : Expr} {rest : List Expr} {pos : Pos} {f g : DTT} (ha : PT X a (liftT M W f)) (hb : PW X (.BoolOp .And (b :: rest) pos) (liftT M W g)) : PW X (.BoolOp .And (a :: b :: rest) pos) (liftT M W (dAnd f g)) :=
  PWw (pw_and ha hb) fun σ H Q ⟨pn, G, n, δ, q, e, R, hf, hQ, hX⟩ => by
    refine ⟨pn, G, n, δ, _, e, R, hf, fun G1 b n1 H1 A1 R1 h1 => ?_, hX⟩
    cases b with
    | true => exact iteT ⟨pn, G1, n1, δ, q, e, R1, h1, fun G2 b n2 H2 A2 R2 h2 => hQ G2 b n2 H2 (R.tr A1 A2) R2 h2, hX.on R A1⟩
    | false => exact iteF (hQ G1 false n1 H1 A1 R1 h1)
theorem dw_or {a b : Expr} {rest : List Expr} {pos : Pos} {f g : DTT} (ha : PT X a (liftT M W f)) (hb : PW X (.BoolOp .Or (b :: rest) pos) (liftT M W g)) : PW X (.BoolOp .Or (a :: b :: rest) pos) (liftT M W (dOr f g)) :=
  PWw (pw_or ha hb) fun σ H Q ⟨pn, G, n, δ, q, e, R, hf, hQ, hX⟩ => by
    refine ⟨pn, G, n, δ, _, e, R, hf, fun G1 b n1 H1 A1 R1 h1 => ?_, hX⟩
    cases b with
    | true => exact iteT (hQ G1 true n1 H1 A1 R1 h1)
    | false => exact iteF ⟨pn, G1, n1, δ, q, e, R1, h1, fun G2 b n2 H2 A2 R2 h2 => hQ G2 b n2 H2 (R.tr A1 A2) R2 h2, hX.on R A1⟩
theorem dt_w {e : Expr} {f : DTT} (h : PW X e (liftT M W f)) : PT X e (liftT M W f) := h.pt
theorem dt_not {a : Expr} {pos : Pos} {f : DTT} (ha : PT X a (liftT M W f)) : PT X (.UnaryOp .Not a pos) (liftT M W (dNot f)) :=
  PTw (pt_not ha) fun σ H Q ⟨pn, G, n, δ, q, e, R, hf, hQ, hX⟩ => ⟨pn, G, n, δ, _, e, R, hf, fun G1 b n1 H1 A1 R1 h1 => hQ G1 (!b) n1 H1 A1 R1 h1, hX⟩
/-- .. as values, truths -/
def dAndV (f g : DTE) : DTE := fun δ n q e => f δ n (fun x n1 => match x with | .bl true => g δ n1 q e | .bl false => q (.bl false) n1 | _ => False) e
def dOrV (f g : DTE) : DTE := fun δ n q e => f δ n (fun x n1 => match x with | .bl true => q (.bl true) n1 | .bl false => g δ n1 q e | _ => False) e
def dNotV (f : DTE) : DTE := fun δ n q e => f δ n (fun x n1 => match x with | .bl b => q (.bl (!b)) n1 | _ => False) e
theorem dp_one {a : Expr} {op : BoolOp} {pos : Pos} {f : DTE} (ha : PE X a (liftE M W f)) : PE X (.BoolOp op [a] pos) (liftE M W f) := pe_one ha
theorem dp_and {a b : Expr} {rest : List Expr} {pos : Pos} {f g : DTE} (ha : PE X a (liftE M W f)) (hb : PE X (.BoolOp .And (b :: rest) pos) (liftE M W g)) : PE X (.BoolOp .And (a :: b :: rest) pos) (liftE M W (dAndV f g)) :=
  PEw (pe_and ha hb) fun σ H Q ⟨pn, G, n, δ, q, e, R, hf, hQ, hX⟩ => by
    refine ⟨pn, G, n, δ, _, e, R, hf, fun G1 v d n1 H1 A1 R1 i1 h1 => ?_, hX⟩
    cases d with
    | bl b =>
      simp only [Is] at i1
      refine ⟨b, i1, ?_⟩
      cases b with
      | true => exact iteT ⟨pn, G1, n1, δ, q, e, R1, h1, fun G2 v d n2 H2 A2 R2 i2 h2 => hQ G2 v d n2 H2 (R.tr A1 A2) R2 i2 h2, hX.on R A1⟩
      | false => exact iteF (hQ G1 (.bl false) (.bl false) n1 H1 A1 R1 (by simp only [Is]) h1)
    | _ => exact h1.elim
theorem dp_or {a b : Expr} {rest : List Expr} {pos : Pos} {f g : DTE} (ha : PE X a (liftE M W f)) (hb : PE X (.BoolOp .Or (b :: rest) pos) (liftE M W g)) : PE X (.BoolOp .Or (a :: b :: rest) pos) (liftE M W (dOrV f g)) :=
  PEw (pe_or ha hb) fun σ H Q ⟨pn, G, n, δ, q, e, R, hf, hQ, hX⟩ => by
    refine ⟨pn, G, n, δ, _, e, R, hf, fun G1 v d n1 H1 A1 R1 i1 h1 => ?_, hX⟩
    cases d with
    | bl b =>
      simp only [Is] at i1
      refine ⟨b, i1, ?_⟩
      cases b with
      | true => exact iteT (hQ G1 (.bl true) (.bl true) n1 H1 A1 R1 (by simp only [Is]) h1)
      | false => exact iteF ⟨pn, G1, n1, δ, q, e, R1, h1, fun G2 v d n2 H2 A2 R2 i2 h2 => hQ G2 v d n2 H2 (R.tr A1 A2) R2 i2 h2, hX.on R A1⟩
    | _ => exact h1.elim
theorem dp_not {a : Expr} {pos : Pos} {f : DTE} (ha : PE X a (liftE M W f)) : PE X (.UnaryOp .Not a pos) (liftE M W (dNotV f)) :=
  PEw (pe_not ha) fun σ H Q ⟨pn, G, n, δ, q, e, R, hf, hQ, hX⟩ => by
    refine ⟨pn, G, n, δ, _, e, R, hf, fun G1 v d n1 H1 A1 R1 i1 h1 => ?_, hX⟩
    cases d with
    | bl b =>
      simp only [Is] at i1
      exact ⟨b, i1, hQ G1 (.bl (!b)) (.bl (!b)) n1 H1 A1 R1 (by simp only [Is]) h1⟩
    | _ => exact h1.elim
def dIf (c : DTT) (f g : DTE) : DTE := fun δ n q e => c δ n (fun b n1 => match b with | true => f δ n1 q e | false => g δ n1 q e) e
theorem dp_if {c a b : Expr} {pos : Pos} {tc : DTT} {f g : DTE} (hc : PT X c (liftT M W tc)) (ha : PE X a (liftE M W f)) (hb : PE X b (liftE M W g)) : PE X (.IfExp c a b pos) (liftE M W (dIf tc f g)) :=
  PEw (pe_ifExp hc ha hb) fun σ H Q ⟨pn, G, n, δ, q, e, R, hf, hQ, hX⟩ => by
    refine ⟨pn, G, n, δ, _, e, R, hf, fun G1 b n1 H1 A1 R1 h1 => ?_, hX⟩
    cases b with
    | true => exact iteT ⟨pn, G1, n1, δ, q, e, R1, h1, fun G2 v d n2 H2 A2 R2 i2 h2 => hQ G2 v d n2 H2 (R.tr A1 A2) R2 i2 h2, hX.on R A1⟩
    | false => exact iteF ⟨pn, G1, n1, δ, q, e, R1, h1, fun G2 v d n2 H2 A2 R2 i2 h2 => hQ G2 v d n2 H2 (R.tr A1 A2) R2 i2 h2, hX.on R A1⟩
/-! ### arguments -/
def dNil : DTA := fun _ n q _ => q [] n
def dCons (f : DTE) (g : DTA) : DTA := fun δ n q e => f δ n (fun x n1 => g δ n1 (fun xs n2 => q (x :: xs) n2) e) e
theorem da_nil : PA X [] (liftA M W dNil) := PAw pa_nil fun σ H Q ⟨pn, G, n, δ, q, e, R, hf, hQ, hX⟩ => hQ G [] [] n H Adv.refl R (by simp only [IsL]) hf
theorem da_cons {e : Expr} {es : List Expr} {f : DTE} {g : DTA} (ha : PE X e (liftE M W f)) (hr : PA X es (liftA M W g)) (hs : starEach (e :: es) X.env = (false, eval e X.env) :: starEach es X.env := by exact starEach_cons rfl) : PA X (e :: es) (liftA M W (dCons f g)) :=
  PAw (pa_cons ha hr hs) fun σ H Q ⟨pn, G, n, δ, q, e, R, hf, hQ, hX⟩ => by
    refine ⟨pn, G, n, δ, _, e, R, hf, fun G1 v d n1 H1 A1 R1 i1 h1 => ?_, hX⟩
    refine ⟨pn, G1, n1, δ, _, e, R1, h1, fun G2 vs ds n2 H2 A2 R2 i2 h2 => ?_, hX.on R A1⟩
    exact hQ G2 (v :: vs) (d :: ds) n2 H2 (R.tr A1 A2) R2 (by simp only [IsL]; exact ⟨Is.up A2.ge d v i1, i2⟩) h2
/-- a tuple, a list of written items -/
def dTup (f : DTA) : DTE := fun δ n q e => f δ n (fun xs n1 => xs.length ≤ 100000 ∧ q (.tup xs) n1) e
def dLst (f : DTA) : DTE := fun δ n q e => f δ n (fun xs n1 => xs.length ≤ 100000 ∧ q (.lst xs) n1) e
theorem le_line {n : Nat} (h : n ≤ 100000) : n ≤ sizeLine := Nat.le_trans h (by decide)
theorem dp_tup {es : List Expr} {k : Nat} {pos : Pos} {f : DTA} (h : PA X es (liftA M W f)) (pe : ∀ {t : TA}, PA X es t → PE X (.Tuple es k pos) (tTup t) := by intro _ h; exact pe_tup h) : PE X (.Tuple es k pos) (liftE M W (dTup f)) :=
  PEw (pe h) fun σ H Q ⟨pn, G, n, δ, q, e, R, hf, hQ, hX⟩ => by
    refine ⟨pn, G, n, δ, _, e, R, hf, fun G1 vs ds n1 H1 A1 R1 i1 h1 => ?_, hX⟩
    refine ⟨by rw [i1.length]; exact le_line h1.1, fun p hp => ?_⟩
    obtain ⟨R2, A2⟩ := R1.lay (o := .tup vs) hp notTbl_tup
    exact hQ _ (.ref p) (.tup ds) n1 _ (R.tr A1 A2) R2 (by simp only [Is]; exact ⟨p, vs, rfl, SqT.of upd_same, IsL.up A2.ge ds vs i1⟩) h1.2
theorem dp_lst {es : List Expr} {pos : Pos} {f : DTA} (h : PA X es (liftA M W f)) (pe : ∀ {t : TA}, PA X es t → PE X (.List es pos) (tLst t) := by intro _ h; exact pe_lst h) : PE X (.List es pos) (liftE M W (dLst f)) :=
  PEw (pe h) fun σ H Q ⟨pn, G, n, δ, q, e, R, hf, hQ, hX⟩ => by
    refine ⟨pn, G, n, δ, _, e, R, hf, fun G1 vs ds n1 H1 A1 R1 i1 h1 => ?_, hX⟩
    refine ⟨by rw [i1.length]; exact le_line h1.1, fun p hp => ?_⟩
    obtain ⟨R2, A2⟩ := R1.lay (o := .lst vs) hp notTbl_lst
    exact hQ _ (.ref p) (.lst ds) n1 _ (R.tr A1 A2) R2 (by simp only [Is]; exact ⟨p, vs, rfl, upd_same, IsL.up A2.ge ds vs i1⟩) h1.2
/-! ### calls of built-ins by values -/
def DRC (M : LK) (r : List V → Hp → VK → Prop) (g : List D → Nat → (D → Nat → Prop) → Prop) : Prop := ∀ (pn : Addr) (G : Hp) (n : Nat) (σ : L2.St) (δ : DEnv) (H : Hp) (vs : List V) (xs : List D) (q : D → Nat → Prop) (Q : VK), Rep M pn G n σ δ H → IsL M G vs xs → g xs n q →
  (∀ G' w d n' H', Adv pn G H G' H' → Rep M pn G' n' σ δ H' → Is M G' w d → q d n' → Q w H') → r vs H Q
def dCB (g : List D → Nat → (D → Nat → Prop) → Prop) (f : DTA) : DTE := fun δ n q e => f δ n (fun xs n1 => g xs n1 q) e
theorem dp_cb {e : Expr} {r : List V → Hp → VK → Prop} {g : List D → Nat → (D → Nat → Prop) → Prop} {f : DTA} (h : PE X e (tCB r (liftA M W f))) (hr : DRC M r g) : PE X e (liftE M W (dCB g f)) :=
  PEw h fun σ H Q ⟨pn, G, n, δ, q, e, R, hf, hQ, hX⟩ => by
    refine ⟨pn, G, n, δ, _, e, R, hf, fun G1 vs ds n1 H1 A1 R1 i1 h1 => ?_, hX⟩
    exact hr pn G1 n1 σ δ H1 vs ds q Q R1 i1 h1 fun G2 w d n2 H2 A2 R2 i2 h2 => hQ G2 w d n2 H2 (R.tr A1 A2) R2 i2 h2
/-- a method of a text -/
def DRM (M : LK) (r : V → List V → Hp → VK → Prop) (g : D → List D → Nat → (D → Nat → Prop) → Prop) : Prop := ∀ (pn : Addr) (G : Hp) (n : Nat) (σ : L2.St) (δ : DEnv) (H : Hp) (v : V) (vs : List V) (x : D) (xs : List D) (q : D → Nat → Prop) (Q : VK), Rep M pn G n σ δ H → Is M G v x → IsL M G vs xs → g x xs n q →
  (∀ G' w d n' H', Adv pn G H G' H' → Rep M pn G' n' σ δ H' → Is M G' w d → q d n' → Q w H') → r v vs H Q
def dM0 (g : D → List D → Nat → (D → Nat → Prop) → Prop) (f : DTE) : DTE := fun δ n q e => f δ n (fun x n1 => match x with | .str l => g (.str l) [] n1 q | _ => False) e
def dM1 (g : D → List D → Nat → (D → Nat → Prop) → Prop) (f h : DTE) : DTE := fun δ n q e => f δ n (fun x n1 => match x with | .str l => h δ n1 (fun y n2 => g (.str l) [y] n2 q) e | _ => False) e
theorem dp_m0 {e : Expr} {r : V → List V → Hp → VK → Prop} {g : D → List D → Nat → (D → Nat → Prop) → Prop} {f : DTE} (h : PE X e (tM0 r (liftE M W f))) (hr : DRM M r g) : PE X e (liftE M W (dM0 g f)) :=
  PEw h fun σ H Q ⟨pn, G, n, δ, q, e, R, hf, hQ, hX⟩ => by
    refine ⟨pn, G, n, δ, _, e, R, hf, fun G1 v d n1 H1 A1 R1 i1 h1 => ?_, hX⟩
    cases d with
    | str l =>
      have i1' := i1
      simp only [Is] at i1'
      exact ⟨⟨_, i1'⟩, hr pn G1 n1 σ δ H1 v [] (.str l) [] q Q R1 i1 (by simp only [IsL]) h1 fun G2 w d n2 H2 A2 R2 i2 h2 => hQ G2 w d n2 H2 (R.tr A1 A2) R2 i2 h2⟩
    | _ => exact h1.elim
theorem dp_m1 {e : Expr} {r : V → List V → Hp → VK → Prop} {g : D → List D → Nat → (D → Nat → Prop) → Prop} {f h : DTE} (hp : PE X e (tM1 r (liftE M W f) (liftE M W h))) (hr : DRM M r g) : PE X e (liftE M W (dM1 g f h)) :=
  PEw hp fun σ H Q ⟨pn, G, n, δ, q, e, R, hf, hQ, hX⟩ => by
    refine ⟨pn, G, n, δ, _, e, R, hf, fun G1 v d n1 H1 A1 R1 i1 h1 => ?_, hX⟩
    cases d with
    | str l =>
      have i1' := i1
      simp only [Is] at i1'
      refine ⟨⟨_, i1'⟩, pn, G1, n1, δ, _, e, R1, h1, fun G2 u y n2 H2 A2 R2 i2 h2 => ?_, hX.on R A1⟩
      exact hr pn G2 n2 σ δ H2 v [u] (.str l) [y] q Q R2 (Is.up A2.ge _ v i1) (by simp only [IsL]; exact ⟨i2, trivial⟩) h2 fun G3 w d n3 H3 A3 R3 i3 h3 => hQ G3 w d n3 H3 (R.tr (R.tr A1 A2) A3) R3 i3 h3
    | _ => exact h1.elim
end
end DL

set_option Elab.async false
set_option linter.all false
set_option maxRecDepth 100000
set_option maxHeartbeats 4000000
set_option autoImplicit false
/-! The data layer: statements, loops, comprehensions. -/
namespace DL
open PySem PySem.Spec PyProof.Rows L2
section
variable {X : Cx} {M : LK} {W : WX}
theorem SEnd.on {pn : Addr} {G G1 H H1 : Hp} {D₀ : Ends} {k : DEnds} {n : Nat} {σ : L2.St} {δ : DEnv} (s : SEnd M W pn G H D₀ k) (R : Rep M pn G n σ δ H) (A : Adv pn G H G1 H1) : SEnd M W pn G1 H1 D₀ k where
  nx := fun G' σ' δ' n' H' A' => s.nx G' σ' δ' n' H' (R.tr A A')
  rt := fun G' σ' δ' v d n' H' A' => s.rt G' σ' δ' v d n' H' (R.tr A A')
  bk := fun G' σ' δ' n' H' A' => s.bk G' σ' δ' n' H' (R.tr A A')
  ct := fun G' σ' δ' n' H' A' => s.ct G' σ' δ' n' H' (R.tr A A')
  ex := fun G' σ' δ' C a ns ds n' H' A' => s.ex G' σ' δ' C a ns ds n' H' (R.tr A A')
theorem SEnd.xe {pn : Addr} {G H : Hp} {D₀ : Ends} {k : DEnds} {σ : L2.St} {δ : DEnv} (s : SEnd M W pn G H D₀ k) : XEnd M W pn G σ δ H k.ex := fun G' C a ns ds n' H' A' R' h q => s.ex G' σ δ C a ns ds n' H' A' R' h q
/-! ### blocks -/
def dNext : DTS := fun k δ n => k.nx δ n
def dSeq (f g : DTS) : DTS := fun k δ n => f { k with nx := fun δ' n' => g k δ' n' } δ n
theorem dss_nil : PSs X [] (liftS M W dNext) := PSsw pss_nil fun D₀ σ H ⟨pn, G, n, δ, k, R, hf, s⟩ => s.nx G σ δ n H Adv.refl R hf
theorem dss_cons {st : Stmt} {rest : List Stmt} {f g : DTS} (h1 : PS X st (liftS M W f)) (h2 : PSs X rest (liftS M W g)) : PSs X (st :: rest) (liftS M W (dSeq f g)) :=
  PSsw (pss_cons h1 h2) fun D₀ σ H ⟨pn, G, n, δ, k, R, hf, s⟩ => ⟨pn, G, n, δ, _, R, hf,
    ⟨fun G' σ' δ' n' H' A' R' h => ⟨pn, G', n', δ', k, R', h, s.on R A'⟩, s.rt, s.bk, s.ct, s.ex⟩⟩
theorem dss_one {st : Stmt} {f : DTS} (h1 : PS X st (liftS M W f)) : PSs X [st] (liftS M W f) := pss_one h1
def dBreak : DTS := fun k δ n => k.bk δ n
def dCont : DTS := fun k δ n => k.ct δ n
theorem ds_pass {pos : Pos} : PS X (.Pass pos) (liftS M W dNext) := PSw ps_pass fun D₀ σ H ⟨pn, G, n, δ, k, R, hf, s⟩ => s.nx G σ δ n H Adv.refl R hf
theorem ds_break {pos : Pos} : PS X (.Break pos) (liftS M W dBreak) := PSw ps_break fun D₀ σ H ⟨pn, G, n, δ, k, R, hf, s⟩ => s.bk G σ δ n H Adv.refl R hf
theorem ds_continue {pos : Pos} : PS X (.Continue pos) (liftS M W dCont) := PSw ps_continue fun D₀ σ H ⟨pn, G, n, δ, k, R, hf, s⟩ => s.ct G σ δ n H Adv.refl R hf
def dDrop (f : DTE) : DTS := fun k δ n => f δ n (fun _ n1 => k.nx δ n1) k.ex
theorem ds_expr {e : Expr} {pos : Pos} {f : DTE} (h : PE X e (liftE M W f)) (hs : swapsWith e none pos.line X.env = pure false := by rfl) : PS X (.Expr e pos) (liftS M W (dDrop f)) :=
  PSw (ps_expr h hs) fun D₀ σ H ⟨pn, G, n, δ, k, R, hf, s⟩ => ⟨pn, G, n, δ, _, k.ex, R, hf, fun G' v d n' H' A' R' i' h => s.nx G' σ δ n' H' A' R' h, s.xe⟩
def dRet (f : DTE) : DTS := fun k δ n => f δ n k.rt k.ex
theorem ds_ret {e : Expr} {pos : Pos} {f : DTE} (h : PE X e (liftE M W f)) : PS X (.Return (some e) pos) (liftS M W (dRet f)) :=
  PSw (ps_ret h) fun D₀ σ H ⟨pn, G, n, δ, k, R, hf, s⟩ => ⟨pn, G, n, δ, _, k.ex, R, hf, fun G' v d n' H' A' R' i' h => s.rt G' σ δ v d n' H' A' R' i' h, s.xe⟩
def dRetN : DTS := fun k _ n => k.rt .non n
theorem ds_retN {pos : Pos} : PS X (.Return none pos) (liftS M W dRetN) :=
  PSw ps_retN fun D₀ σ H ⟨pn, G, n, δ, k, R, hf, s⟩ => s.rt G σ δ .non .non n H Adv.refl R (by simp only [Is]) hf
def dIfS (c : DTT) (f g : DTS) : DTS := fun k δ n => c δ n (fun b n1 => match b with | true => f k δ n1 | false => g k δ n1) k.ex
theorem ds_if {c : Expr} {a b : List Stmt} {pos : Pos} {tc : DTT} {f g : DTS} (hc : PT X c (liftT M W tc)) (ha : PSs X a (liftS M W f)) (hb : PSs X b (liftS M W g)) : PS X (.If c a b pos) (liftS M W (dIfS tc f g)) :=
  PSw (ps_if hc ha hb) fun D₀ σ H ⟨pn, G, n, δ, k, R, hf, s⟩ => by
    refine ⟨pn, G, n, δ, _, k.ex, R, hf, fun G1 b n1 H1 A1 R1 h1 => ?_, s.xe⟩
    cases b with
    | true => exact iteT ⟨pn, G1, n1, δ, k, R1, h1, s.on R A1⟩
    | false => exact iteF ⟨pn, G1, n1, δ, k, R1, h1, s.on R A1⟩
theorem ds_never {st : Stmt} : PS X st (liftS M W fun _ _ _ => False) := PSw (t := tNever) ps_never fun D₀ σ H ⟨pn, G, n, δ, k, R, hf, s⟩ => hf
/-! ### targets -/
abbrev DTG := D → DEnv → (DEnv → Prop) → Prop
abbrev DTGs := List D → DEnv → (DEnv → Prop) → Prop
def wipeD (δ : DEnv) : List Nat → DEnv
  | [] => δ
  | v :: vs => (wipeD δ vs).set v none
/-- vs: the slots that may change -/
def liftG (M : LK) (vs : List Nat) (g : DTG) : TG := fun v σ H Q => ∃ pn G n δ d q, Rep M pn G n σ δ H ∧ Is M G v d ∧ g d δ q ∧ ∀ G' σ' δ' H', Adv pn G H G' H' → Rep M pn G' n σ' δ' H' → wipe σ' vs = wipe σ vs → q δ' → Q σ' H'
def liftGs (M : LK) (vs : List Nat) (g : DTGs) : TGs := fun us σ H Q => ∃ pn G n δ ds q, Rep M pn G n σ δ H ∧ IsL M G us ds ∧ g ds δ q ∧ ∀ G' σ' δ' H', Adv pn G H G' H' → Rep M pn G' n σ' δ' H' → wipe σ' vs = wipe σ vs → q δ' → Q σ' H'
theorem PGw {X : Cx} {e : Expr} {t t' : TG} (h : PG X e t) (w : ∀ v σ H Q, t' v σ H Q → t v σ H Q) : PG X e t' := ⟨fun pins s σ H v u Q I r q => h.run pins s σ H v u Q I r (w _ _ _ _ q)⟩
theorem PGsw {X : Cx} {e : List Expr} {t t' : TGs} (h : PGs X e t) (w : ∀ v σ H Q, t' v σ H Q → t v σ H Q) : PGs X e t' := ⟨fun pins s σ H v u Q I r q => h.run pins s σ H v u Q I r (w _ _ _ _ q)⟩
def dgName (i : Nat) : DTG := fun d δ q => q (δ.set i (some d))
theorem wipe_set {σ : L2.St} {i : Nat} {x : Option V} : ∀ {vs : List Nat}, i ∈ vs → wipe (σ.set i x) vs = wipe σ vs
  | v :: vs, h => by
    unfold wipe
    by_cases e : i ∈ vs
    · rw [wipe_set e]
    · have ev : i = v := by
        rcases List.mem_cons.mp h with h | h
        · exact h
        · exact absurd h e
      subst ev
      have : ∀ (σ : L2.St) (ws : List Nat), i ∉ ws → wipe (σ.set i x) ws = (wipe σ ws).set i x := by
        intro σ ws
        induction ws with
        | nil => intro _; rfl
        | cons w ws ih =>
          intro hn
          have h1 : i ≠ w := fun z => hn (by rw [z]; exact List.mem_cons_self)
          have h2 : i ∉ ws := fun z => hn (List.mem_cons_of_mem _ z)
          unfold wipe
          rw [ih h2, List.set_comm _ _ h1]
      rw [this σ vs e, List.set_set]
theorem Rep.put {pn : Addr} {G H : Hp} {n : Nat} {σ : L2.St} {δ : DEnv} {i : Nat} {v : V} {d : D} (R : Rep M pn G n σ δ H) (h : Is M G v d) : Rep M pn G n (σ.set i (some v)) (δ.set i (some d)) H := ⟨R.ex, R.pen, R.tab, R.nt, R.pe, R.env.set h⟩
theorem dg_of {tg : Expr} {i : Nat} {vs : List Nat} (h : PG X tg (gName i)) (hi : i ∈ vs) : PG X tg (liftG M vs (dgName i)) :=
  PGw h fun v σ H Q ⟨pn, G, n, δ, d, q, R, hi', hg, hQ⟩ => hQ G (σ.set i (some v)) (δ.set i (some d)) H Adv.refl (R.put hi') (wipe_set hi) hg
def dgNil : DTGs := fun ds δ q => match ds with | [] => q δ | _ => False
def dgCons (g : DTG) (gs : DTGs) : DTGs := fun ds δ q => match ds with | d :: r => g d δ fun δ' => gs r δ' q | [] => False
theorem dgs_nil {vs : List Nat} : PGs X [] (liftGs M vs dgNil) := PGsw pgs_nil fun us σ H Q ⟨pn, G, n, δ, ds, q, R, hi, hg, hQ⟩ => by
  cases ds with
  | nil =>
    cases us with
    | nil => exact ⟨rfl, hQ G σ δ H Adv.refl R rfl hg⟩
    | cons _ _ => simp only [IsL] at hi
  | cons _ _ => exact hg.elim
theorem dgs_cons {e : Expr} {es : List Expr} {vs : List Nat} {g : DTG} {gs : DTGs} (h1 : PG X e (liftG M vs g)) (h2 : PGs X es (liftGs M vs gs)) (hs : (assignEach (e :: es) X.env).map (·.2) = assign e X.env :: (assignEach es X.env).map (·.2) := by rfl) : PGs X (e :: es) (liftGs M vs (dgCons g gs)) :=
  PGsw (pgs_cons h1 h2 hs) fun us σ H Q ⟨pn, G, n, δ, ds, q, R, hi, hg, hQ⟩ => by
    cases ds with
    | nil => exact hg.elim
    | cons d r =>
      cases us with
      | nil => simp only [IsL] at hi
      | cons u ur =>
        simp only [IsL] at hi
        refine ⟨u, ur, rfl, pn, G, n, δ, d, _, R, hi.1, hg, fun G1 σ1 δ1 H1 A1 R1 w1 h1 => ?_⟩
        exact ⟨pn, G1, n, δ1, r, q, R1, IsL.up A1.ge r ur hi.2, h1, fun G2 σ2 δ2 H2 A2 R2 w2 h2 => hQ G2 σ2 δ2 H2 (R.tr A1 A2) R2 (w2.trans w1) h2⟩
/-- (a, b, ..) = a tuple -/
def dgTup (m : Nat) (gs : DTGs) : DTG := fun d δ q => match d with | .tup xs => xs.length = m ∧ gs xs δ q | _ => False
theorem dg_tup {es : List Expr} {k : Nat} {pos : Pos} {m : Nat} {vs : List Nat} {gs : DTGs} (hK : X.K = M.L.K) (hc : X.calm = true) (h : PGs X es (liftGs M vs gs)) (hn : (assignEach es X.env).length = m := by rfl) (hst : (assignEach es X.env).findIdx? (·.1) = none := by rfl) : PG X (.Tuple es k pos) (liftG M vs (dgTup m gs)) :=
  PGw (pg_tup hc h hn hst) fun v σ H Q ⟨pn, G, n, δ, d, q, R, hi, hg, hQ⟩ => by
    cases d with
    | tup xs =>
      simp only [Is] at hi
      obtain ⟨p, us, rfl, h1, h2⟩ := hi
      exact ⟨p, us, rfl, by rw [hK]; exact R.ex.seqT h1, by rw [h2.length]; exact hg.1, pn, G, n, δ, xs, q, R, h2, hg.2, hQ⟩
    | _ => exact hg.elim
/-- target = e -/
def dAsg (f : DTE) (g : DTG) : DTS := fun k δ n => f δ n (fun d n1 => g d δ fun δ' => k.nx δ' n1) k.ex
theorem liftS_asg {f : DTE} {g : DTG} {vs : List Nat} (D₀ : Ends) (σ : L2.St) (H : Hp) (h : liftS M W (dAsg f g) D₀ σ H) : tAsg (liftE M W f) (liftG M vs g) D₀ σ H := by
  obtain ⟨pn, G, n, δ, k, R, hf, s⟩ := h
  refine ⟨pn, G, n, δ, _, k.ex, R, hf, fun G1 v d n1 H1 A1 R1 i1 h1 => ?_, s.xe⟩
  exact ⟨pn, G1, n1, δ, d, _, R1, i1, h1, fun G2 σ2 δ2 H2 A2 R2 _ h2 => s.nx G2 σ2 δ2 n1 H2 (R.tr A1 A2) R2 h2⟩
theorem ds_asg {st : Stmt} {f : DTE} {g : DTG} {vs : List Nat} (h : PS X st (tAsg (liftE M W f) (liftG M vs g))) : PS X st (liftS M W (dAsg f g)) := PSw h liftS_asg
theorem liftS_set {f : DTE} {i : Nat} (D₀ : Ends) (σ : L2.St) (H : Hp) (h : liftS M W (dAsg f (dgName i)) D₀ σ H) : tAsg (liftE M W f) (gName i) D₀ σ H := by
  obtain ⟨pn, G, n, δ, k, R, hf, s⟩ := h
  refine ⟨pn, G, n, δ, _, k.ex, R, hf, fun G1 v d n1 H1 A1 R1 i1 h1 => ?_, s.xe⟩
  exact s.nx G1 (σ.set i (some v)) (δ.set i (some d)) n1 H1 A1 (R1.put i1) h1
theorem ds_set {st : Stmt} {f : DTE} {i : Nat} (h : PS X st (tAsg (liftE M W f) (gName i))) : PS X st (liftS M W (dAsg f (dgName i))) := PSw h liftS_set
/-- a, b = x, y -/
def dPar (i j : Nat) (f : DTA) : DTS := fun k δ n => f δ n (fun ds n1 => match ds with | [x, y] => k.nx ((δ.set i (some x)).set j (some y)) n1 | _ => False) k.ex
theorem ds_par {st : Stmt} {f : DTA} {i j : Nat} (h : PS X st (tPar i j (liftA M W f))) : PS X st (liftS M W (dPar i j f)) :=
  PSw h fun D₀ σ H ⟨pn, G, n, δ, k, R, hf, s⟩ => by
    refine ⟨pn, G, n, δ, _, k.ex, R, hf, fun G1 vs ds n1 H1 A1 R1 i1 h1 => ?_, s.xe⟩
    match ds, vs, i1, h1 with
    | [x, y], [v, w], i1, h1 =>
      simp only [IsL] at i1
      exact ⟨v, w, rfl, s.nx G1 _ _ n1 H1 A1 ((R1.put i1.1).put i1.2.1) h1⟩
    | [x, y], [], i1, _ => simp only [IsL] at i1
    | [x, y], [_], i1, _ => simp only [IsL, and_false] at i1
    | [x, y], _ :: _ :: _ :: _, i1, _ => simp only [IsL, and_false] at i1
    | [], _, _, h1 => exact h1.elim
    | [_], _, _, h1 => exact h1.elim
    | _ :: _ :: _ :: _, _, _, h1 => exact h1.elim
/-! ### while -/
def dWhile (c : DTT) (body : DTS) : DTS := fun k δ n => ∃ Wf : Nat → DEnv → Nat → Prop, (∃ m, Wf m δ n) ∧ ∀ m δ n, Wf m δ n → c δ n (fun b n1 => match b with
  | true => ∃ N : DEnv → Nat → Prop, (∀ δ' n', N δ' n' → ∃ m', m' < m ∧ Wf m' δ' n') ∧ body { k with nx := N, ct := N, bk := k.nx } δ n1
  | false => k.nx δ n1) k.ex
theorem ds_while {c : Expr} {body : List Stmt} {pos : Pos} {tc : DTT} {f : DTS} (hp : PassesOwn (model X.prog X.w) X.A X.env X.xe) (hc : PT X c (liftT M W tc)) (hb : PSs X body (liftS M W f)) : PS X (.While c body [] pos) (liftS M W (dWhile tc f)) :=
  PSw (ps_while hp hc hb) fun D₀ σ H ⟨pn, G, n, δ, k, R, ⟨Wf, ⟨m0, w0⟩, hw⟩, s⟩ => by
    refine ⟨fun m σ' H' => ∃ G' n' δ', Rep M pn G' n' σ' δ' H' ∧ Adv pn G H G' H' ∧ Wf m δ' n', ⟨m0, G, n, δ, R, Adv.refl, w0⟩, ?_⟩
    rintro m σ1 H1 ⟨G1, n1, δ1, R1, A1, w1⟩
    refine ⟨pn, G1, n1, δ1, _, k.ex, R1, hw m δ1 n1 w1, fun G2 b n2 H2 A2 R2 h2 => ?_, (s.on R A1).xe⟩
    have A12 := R.tr A1 A2
    cases b with
    | true =>
      obtain ⟨N, hN, hb⟩ := h2
      refine iteT ⟨fun σ' H' => ∃ G' n' δ', Rep M pn G' n' σ' δ' H' ∧ Adv pn G H G' H' ∧ N δ' n', fun σ' H' ⟨G', n', δ', R', A', h'⟩ => ?_, pn, G2, n2, δ1, _, R2, hb, ?_⟩
      · obtain ⟨m', hm, w'⟩ := hN δ' n' h'
        exact ⟨m', hm, G', n', δ', R', A', w'⟩
      · have s2 := s.on R A12
        exact ⟨fun G' σ' δ' n' H' A' R' h' => ⟨G', n', δ', R', R.tr A12 A', h'⟩, s2.rt, fun G' σ' δ' n' H' A' R' h' => s2.nx G' σ' δ' n' H' A' R' h', fun G' σ' δ' n' H' A' R' h' => ⟨G', n', δ', R', R.tr A12 A', h'⟩, s2.ex⟩
    | false => exact iteF (s.nx G2 σ1 δ1 n2 H2 A12 R2 h2)
/-! ### what is walked: its items -/
structure Yields (M : LK) (pn : Addr) (G0 H0 : Hp) (J : It) (ds : List D) : Prop where
  go : ∀ i G H n σ δ, Adv pn G0 H0 G H → Rep M pn G n σ δ H → ∀ d, ds[i]? = some d → J.go i H ∧ ∀ x H', J.yld i H x H' → ∃ G', Adv pn G H G' H' ∧ Rep M pn G' n σ δ H' ∧ Is M G' x d
  stop : ∀ G H n σ δ, Adv pn G0 H0 G H → Rep M pn G n σ δ H → J.stop ds.length H
abbrev DTI := DEnv → Nat → (List D → Nat → Prop) → DX → Prop
def liftI (M : LK) (W : WX) (f : DTI) : TI := fun σ H R => ∃ pn G n δ q e, Rep M pn G n σ δ H ∧ f δ n q e ∧
  (∀ G' ds n' H' J, Adv pn G H G' H' → Rep M pn G' n' σ δ H' → Yields M pn G' H' J ds → q ds n' → R J H') ∧ XEnd M W pn G σ δ H e
theorem PIw {X : Cx} {tg e : Expr} {t t' : TI} (h : PI X tg e t) (w : ∀ σ H Q, t' σ H Q → t σ H Q) : PI X tg e t' := ⟨fun pins s σ H R I q => h.run pins s σ H R I (w _ _ _ q)⟩
def dForL (g : DTG) (body : DTS) : List D → DEnds → DEnv → Nat → Prop
  | [], k, δ, n => k.nx δ n
  | d :: ds, k, δ, n => g d δ fun δ' => body { k with nx := fun δ2 n2 => dForL g body ds k δ2 n2, ct := fun δ2 n2 => dForL g body ds k δ2 n2, bk := k.nx } δ' n
def dFor (it : DTI) (g : DTG) (body : DTS) : DTS := fun k δ n => it δ n (fun ds n1 => dForL g body ds k δ n1) k.ex
theorem ds_for {tg iter : Expr} {body : List Stmt} {pos : Pos} {it : DTI} {g : DTG} {vs : List Nat} {f : DTS} (hp : PassesOwn (model X.prog X.w) X.A X.env X.xe) (hc : X.calm = true) (hi : PI X tg iter (liftI M W it)) (hg : PG X tg (liftG M vs g)) (hb : PSs X body (liftS M W f))
    (hs : ∀ x, foldedSetIterable iter X.env x = pure x := by intro _; rfl) : PS X (.For tg iter body [] pos) (liftS M W (dFor it g f)) :=
  PSw (ps_for hp hc hi hg hb hs) fun D₀ σ H ⟨pn, G, n, δ, k, R, hf, s⟩ => by
    refine ⟨pn, G, n, δ, _, k.ex, R, hf, fun G1 ds n1 H1 J A1 R1 Y h1 => ?_, s.xe⟩
    refine ⟨fun i m σ' H' => m = ds.length - i ∧ i ≤ ds.length ∧ ∃ G' n' δ', Rep M pn G' n' σ' δ' H' ∧ Adv pn G1 H1 G' H' ∧ dForL g f (ds.drop i) k δ' n', ⟨ds.length, rfl, Nat.zero_le _, G1, n1, δ, R1, Adv.refl, h1⟩, ?_⟩
    rintro i m σ2 H2 ⟨rfl, hi, G2, n2, δ2, R2, A2, h2⟩
    have A02 := R.tr A1 A2
    by_cases hlt : i < ds.length
    · obtain ⟨d, hd⟩ : ∃ d, ds[i]? = some d := ⟨ds[i], by simp [hlt]⟩
      have e1 : ds.drop i = d :: ds.drop (i + 1) := by
        rw [List.drop_eq_getElem_cons hlt]
        congr 1
        rw [List.getElem?_eq_getElem hlt] at hd
        exact Option.some.inj hd
      rw [e1] at h2
      obtain ⟨g1, g2⟩ := Y.go i G2 H2 n2 σ2 δ2 A2 R2 d hd
      refine .inr ⟨g1, fun σ' H' => ∃ G' n' δ', Rep M pn G' n' σ' δ' H' ∧ Adv pn G1 H1 G' H' ∧ dForL g f (ds.drop (i + 1)) k δ' n', fun σ' H' h' => ⟨ds.length - (i + 1), by omega, rfl, hlt, h'⟩, fun x H3 hy => ?_⟩
      obtain ⟨G3, A3, R3, i3⟩ := g2 x H3 hy
      refine ⟨pn, G3, n2, δ2, d, _, R3, i3, h2, fun G4 σ4 δ4 H4 A4 R4 _ h4 => ?_⟩
      have A24 := R2.tr A3 A4
      have s4 := s.on R (R.tr A02 A24)
      exact ⟨pn, G4, n2, δ4, _, R4, h4, ⟨fun G' σ' δ' n' H' A' R' h' => ⟨G', n', δ', R', R1.tr (R1.tr A2 A24) A', h'⟩, s4.rt, fun G' σ' δ' n' H' A' R' h' => s4.nx G' σ' δ' n' H' A' R' h', fun G' σ' δ' n' H' A' R' h' => ⟨G', n', δ', R', R1.tr (R1.tr A2 A24) A', h'⟩, s4.ex⟩⟩
    · have e : i = ds.length := by omega
      subst e
      rw [List.drop_length] at h2
      exact .inl ⟨Y.stop G2 H2 n2 σ2 δ2 A2 R2, s.nx G2 σ2 δ2 n2 H2 A02 R2 h2⟩
/-- the items of a list, a tuple, a text -/
def items : D → Option (List D)
  | .lst xs => some xs
  | .tup xs => some xs
  | .str l => some (l.map fun c => .str [c])
  | _ => none
def diSeq (f : DTE) : DTI := fun δ n q e => f δ n (fun d n1 => match items d with | some ds => q ds n1 | none => False) e
theorem yields_list {pn a : Addr} {G0 H0 : Hp} {vs : List V} {ds : List D} (h : G0 a = some (.lst vs)) (hi : IsL M G0 vs ds) : Yields M pn G0 H0 (Itl M.L.K a) ds where
  go := fun i G H n σ δ A R d hd => by
    have e : H a = some (.lst vs) := R.ex _ _ (A.ge _ _ h)
    obtain ⟨v, h1, h2⟩ := IsL.get (IsL.up A.ge ds vs hi) hd
    refine ⟨⟨vs, v, SqL.of e, h1⟩, fun x H' y => ?_⟩
    obtain ⟨rfl, y⟩ := y
    have ex := y vs (SqL.of e)
    rw [h1] at ex
    cases ex
    exact ⟨G, Adv.refl, R, h2⟩
  stop := fun G H n σ δ A R => ⟨vs, SqL.of (R.ex _ _ (A.ge _ _ h)), by rw [hi.length]; exact Nat.le_refl _⟩
theorem yields_tup {pn a : Addr} {G0 H0 : Hp} {vs : List V} {ds : List D} (h : SqT M.L.K G0 a vs) (hi : IsL M G0 vs ds) : Yields M pn G0 H0 (Itt M.L.K a) ds where
  go := fun i G H n σ δ A R d hd => by
    have e : SqT M.L.K H a vs := R.ex.seqT (A.ge.seqT h)
    obtain ⟨v, h1, h2⟩ := IsL.get (IsL.up A.ge ds vs hi) hd
    refine ⟨⟨vs, v, e, h1⟩, fun x H' y => ?_⟩
    obtain ⟨rfl, y⟩ := y
    have ex := y vs e
    rw [h1] at ex
    cases ex
    exact ⟨G, Adv.refl, R, h2⟩
  stop := fun G H n σ δ A R => ⟨vs, R.ex.seqT (A.ge.seqT h), by rw [hi.length]; exact Nat.le_refl _⟩
theorem yields_str {pn : Addr} {G0 H0 : Hp} {l : List Nat} : Yields M pn G0 H0 (Its (S l)) (l.map fun c => .str [c]) where
  go := fun i G H n σ δ A R d hd => by
    rw [List.getElem?_map] at hd
    cases e : l[i]? with
    | none => rw [e] at hd; cases hd
    | some c =>
      rw [e] at hd
      cases hd
      have hlt := (List.getElem?_eq_some_iff.mp e).1
      refine ⟨by simpa [Its, S] using hlt, fun x H' y => ?_⟩
      obtain ⟨rfl, c', h1, rfl⟩ := y
      have h1' : l[i]? = some c' := by simpa [S] using h1
      rw [e] at h1'
      cases h1'
      exact ⟨G, Adv.refl, R, by simp only [Is]⟩
  stop := fun G H n σ δ A R => by simp [Its, S]
/-- lo, lo + 1, .. -/
def rangeD (lo : Int) (n : Nat) : List D := (List.range n).map fun i => .int (lo + (i : Nat))
theorem yields_range {pn : Addr} {G0 H0 : Hp} {lo : Int} {m : Nat} : Yields M pn G0 H0 (Itr lo m) (rangeD lo m) where
  go := fun i G H n σ δ A R d hd => by
    have hlt : i < m := by
      have := (List.getElem?_eq_some_iff.mp hd).1
      simpa [rangeD] using this
    have e : d = .int (lo + (i : Nat)) := by
      unfold rangeD at hd
      rw [List.getElem?_map, List.getElem?_range hlt] at hd
      exact (Option.some.inj hd).symm
    refine ⟨hlt, fun x H' y => ?_⟩
    obtain ⟨rfl, rfl⟩ := y
    exact ⟨G, Adv.refl, R, by rw [e]; simp only [Is]⟩
  stop := fun G H n σ δ A R => by show m ≤ (rangeD lo m).length; simp [rangeD]
theorem yields_enum {pn a : Addr} {G0 H0 : Hp} {vs : List V} {ds : List D} (h : G0 a = some (.lst vs)) (hi : IsL M G0 vs ds) : Yields M pn G0 H0 (Ite M.L.K a) (ds.zipIdx.map fun p => .tup [.int (p.2 : Nat), p.1]) where
  go := fun i G H n σ δ A R d hd => by
    have e : H a = some (.lst vs) := R.ex _ _ (A.ge _ _ h)
    rw [List.getElem?_map, List.getElem?_zipIdx] at hd
    cases e1 : ds[i]? with
    | none => rw [e1] at hd; cases hd
    | some d1 =>
      rw [e1] at hd
      cases hd
      obtain ⟨v, h1, h2⟩ := IsL.get (IsL.up A.ge ds vs hi) e1
      refine ⟨⟨vs, v, SqL.of e, h1⟩, fun x H' y => ?_⟩
      obtain ⟨T, u, rfl, hT, rfl, y⟩ := y
      have ex := y vs (SqL.of e)
      rw [h1] at ex
      cases ex
      obtain ⟨R2, A2⟩ := R.lay (o := .tup [.int (i : Nat), v]) hT notTbl_tup
      refine ⟨_, A2, R2, ?_⟩
      simp only [Is, IsL, Option.map, Nat.zero_add]
      exact ⟨T, _, rfl, SqT.of upd_same, by simp only [IsL, Is]; exact ⟨trivial, Is.up A2.ge d1 v h2, trivial⟩⟩
  stop := fun G H n σ δ A R => ⟨vs, SqL.of (R.ex _ _ (A.ge _ _ h)), by simp [hi.length]⟩
theorem yields_zip {pn a b : Addr} {G0 H0 : Hp} {vs us : List V} {ds es : List D} (h : G0 a = some (.lst vs)) (hi : IsL M G0 vs ds) (h' : G0 b = some (.lst us)) (hi' : IsL M G0 us es) : Yields M pn G0 H0 (Itz M.L.K a b) ((ds.zip es).map fun p => .tup [p.1, p.2]) where
  go := fun i G H n σ δ A R d hd => by
    have e : H a = some (.lst vs) := R.ex _ _ (A.ge _ _ h)
    have e' : H b = some (.lst us) := R.ex _ _ (A.ge _ _ h')
    rw [List.getElem?_map] at hd
    cases e1 : (ds.zip es)[i]? with
    | none => rw [e1] at hd; cases hd
    | some p =>
      rw [e1] at hd
      cases hd
      obtain ⟨z1, z2⟩ := List.getElem?_zip_eq_some.mp e1
      obtain ⟨v, h1, h2⟩ := IsL.get (IsL.up A.ge ds vs hi) z1
      obtain ⟨u, h3, h4⟩ := IsL.get (IsL.up A.ge es us hi') z2
      refine ⟨⟨vs, us, v, u, SqL.of e, SqL.of e', h1, h3⟩, fun x H' y => ?_⟩
      obtain ⟨T, x1, y1, rfl, hT, rfl, y, y'⟩ := y
      have ex := y vs (SqL.of e)
      rw [h1] at ex
      cases ex
      have ex' := y' us (SqL.of e')
      rw [h3] at ex'
      cases ex'
      obtain ⟨R2, A2⟩ := R.lay (o := .tup [v, u]) hT notTbl_tup
      refine ⟨_, A2, R2, ?_⟩
      simp only [Is]
      exact ⟨T, _, rfl, SqT.of upd_same, by simp only [IsL]; exact ⟨Is.up A2.ge _ v h2, Is.up A2.ge _ u h4, trivial⟩⟩
  stop := fun G H n σ δ A R => ⟨vs, us, SqL.of (R.ex _ _ (A.ge _ _ h)), SqL.of (R.ex _ _ (A.ge _ _ h')), by
    have e1 := hi.length
    have e2 := hi'.length
    rw [List.length_map, List.length_zip]
    omega⟩
theorem di_list {tg l : Expr} {f : DTE} (hK : X.K = M.L.K) (h : PE X l (liftE M W f)) : PI X tg l (liftI M W (diSeq f)) := by
  have key : PI X tg l (fun σ H R => liftE M W f σ H fun x H1 => (∃ a, x = .ref a ∧ (∃ xs, SqL X.K H1 a xs) ∧ R (Itl X.K a) H1) ∨ (∃ a, x = .ref a ∧ (∃ xs, SqT X.K H1 a xs) ∧ R (Itt X.K a) H1) ∨ (∃ z, x = .str z ∧ R (Its z) H1)) := by
    refine ⟨fun pins s σ H R I h' => ?_⟩
    refine thn (h.run pins s σ H _ I h') fun v s1 ⟨x, H1, I1, r1, q1⟩ => ?_
    rcases q1 with ⟨a, e, ⟨xs, hq⟩, q⟩ | ⟨a, e, ⟨xs, hq⟩, q⟩ | ⟨z, e, q⟩
    · subst e
      cases r1
      obtain ⟨its, rv, p, hz⟩ := I1.list hq
      refine wpAny_pyIter_list p.isList ?_
      refine ⟨s1.heap.objs.size, [s1.heap.objs.size], _, _, H1, rfl, I1.kept (t' := s1.toks) fun b o e => Heap.get?_push_of_some _ e, turn_list a _, ⟨_, Heap.get?_push_size _ rfl, rfl, rfl⟩, fun b hb => ?_, q⟩
      have e : b = s1.heap.objs.size := by simpa using hb
      subst e
      exact I1.fpOk (Nat.le_refl _) (I1.hok.fresh (Nat.le_refl _))
    · subst e
      cases r1
      obtain ⟨its, rv, p, hz⟩ := I1.tuple hq
      refine wpAny_pyIter_tuple (show s1.heap.IsTuple a its.toArray from p) ?_
      refine ⟨s1.heap.objs.size, [s1.heap.objs.size], _, _, H1, rfl, I1.kept (t' := s1.toks) fun b o e => Heap.get?_push_of_some _ e, turn_tuple a _, ⟨_, Heap.get?_push_size _ rfl, rfl, rfl⟩, fun b hb => ?_, q⟩
      have e : b = s1.heap.objs.size := by simpa using hb
      subst e
      exact I1.fpOk (Nat.le_refl _) (I1.hok.fresh (Nat.le_refl _))
    · subst e
      obtain ⟨t, rfl⟩ := r1
      cases ha : z.cps.all (· < 128)
      · exact wpAny_pyIter_wide ha (pi_one (tk := s1.toks) I1 _ (turn_str _ z t "str_iterator" (.inr rfl)) ⟨_, Heap.get?_push_size _ rfl, rfl, rfl⟩ q)
      · exact wpAny_pyIter_ascii ha (pi_one (tk := s1.toks) I1 _ (turn_str _ z t "str_ascii_iterator" (.inl rfl)) ⟨_, Heap.get?_push_size _ rfl, rfl, rfl⟩ q)
  refine PIw key fun σ H R' ⟨pn, G, n, δ, q, e, R, hf, hQ, hX⟩ => ⟨pn, G, n, δ, _, e, R, hf, fun G1 v d n1 H1 A1 R1 i1 h1 => ?_, hX⟩
  rw [hK]
  cases d with
  | lst xs =>
    simp only [Is] at i1
    obtain ⟨p, vs, rfl, h2, h3⟩ := i1
    exact .inl ⟨p, rfl, ⟨vs, SqL.of (R1.ex _ _ h2)⟩, hQ G1 xs n1 H1 _ A1 R1 (yields_list h2 h3) h1⟩
  | tup xs =>
    simp only [Is] at i1
    obtain ⟨p, vs, rfl, h2, h3⟩ := i1
    exact .inr (.inl ⟨p, rfl, ⟨vs, R1.ex.seqT h2⟩, hQ G1 xs n1 H1 _ A1 R1 (yields_tup h2 h3) h1⟩)
  | str l =>
    simp only [Is] at i1
    exact .inr (.inr ⟨S l, i1, hQ G1 _ n1 H1 _ A1 R1 yields_str h1⟩)
  | _ => exact h1.elim
def diRange1 (f : DTA) : DTI := fun δ n q e => f δ n (fun xs n1 => match xs with | [.int j] => j < 2 ^ 62 ∧ -(2 ^ 62) ≤ j ∧ q (rangeD 0 j.toNat) n1 | _ => False) e
def diRange2 (f : DTA) : DTI := fun δ n q e => f δ n (fun xs n1 => match xs with | [.int i, .int j] => (-(2 ^ 62) ≤ i ∧ i < 2 ^ 62 ∧ -(2 ^ 62) ≤ j ∧ j < 2 ^ 62) ∧ q (rangeD i (j - i).toNat) n1 | _ => False) e
theorem IsL.ints {M : LK} {G : Hp} : ∀ {is : List Int} {vs : List V}, IsL M G vs (is.map .int) → vs = is.map .int
  | [], [], _ => rfl
  | i :: is, v :: vs, h => by
    simp only [List.map_cons, IsL, Is] at h ⊢
    rw [h.1, IsL.ints h.2]
  | [], _ :: _, h => by simp only [List.map_nil, IsL] at h
  | _ :: _, [], h => by simp only [List.map_cons, IsL] at h
theorem di_range1 {tg : Expr} {e : Expr} {f : DTA} (h : PI X tg e (iRng1 (liftA M W f))) : PI X tg e (liftI M W (diRange1 f)) :=
  PIw h fun σ H R' ⟨pn, G, n, δ, q, e, R, hf, hQ, hX⟩ => by
    refine ⟨pn, G, n, δ, _, e, R, hf, fun G1 vs ds n1 H1 A1 R1 i1 h1 => ?_, hX⟩
    match ds, h1 with
    | [.int j], h1 =>
      obtain rfl := IsL.ints (is := [j]) i1
      exact ⟨j, rfl, h1.2.1, h1.1, hQ G1 _ n1 H1 _ A1 R1 yields_range h1.2.2⟩
theorem di_range2 {tg : Expr} {e : Expr} {f : DTA} (h : PI X tg e (iRng2 (liftA M W f))) : PI X tg e (liftI M W (diRange2 f)) :=
  PIw h fun σ H R' ⟨pn, G, n, δ, q, e, R, hf, hQ, hX⟩ => by
    refine ⟨pn, G, n, δ, _, e, R, hf, fun G1 vs ds n1 H1 A1 R1 i1 h1 => ?_, hX⟩
    match ds, h1 with
    | [.int i, .int j], h1 =>
      obtain rfl := IsL.ints (is := [i, j]) i1
      exact ⟨i, j, rfl, h1.1, hQ G1 _ n1 H1 _ A1 R1 yields_range h1.2⟩
def diEnum (f : DTA) : DTI := fun δ n q e => f δ n (fun xs n1 => match xs with | [.lst ds] => q (ds.zipIdx.map fun p => .tup [.int (p.2 : Nat), p.1]) n1 | _ => False) e
theorem di_enum {tg : Expr} {e : Expr} {f : DTA} (h : PI X tg e (iEnum M.L.K (liftA M W f))) : PI X tg e (liftI M W (diEnum f)) :=
  PIw h fun σ H R' ⟨pn, G, n, δ, q, e, R, hf, hQ, hX⟩ => by
    refine ⟨pn, G, n, δ, _, e, R, hf, fun G1 vs ds n1 H1 A1 R1 i1 h1 => ?_, hX⟩
    match ds, vs, i1, h1 with
    | [.lst xs], [v], i1, h1 =>
      simp only [IsL, Is] at i1
      obtain ⟨⟨p, vs, rfl, h2, h3⟩, _⟩ := i1
      exact ⟨p, vs, rfl, SqL.of (R1.ex _ _ h2), hQ G1 _ n1 H1 _ A1 R1 (yields_enum h2 h3) h1⟩
    | [.lst xs], [], i1, _ => simp only [IsL] at i1
    | [.lst xs], _ :: _ :: _, i1, _ => simp only [IsL, and_false] at i1
def diZip (f : DTA) : DTI := fun δ n q e => f δ n (fun xs n1 => match xs with | [.lst ds, .lst es] => q ((ds.zip es).map fun p => .tup [p.1, p.2]) n1 | _ => False) e
theorem di_zip {tg : Expr} {e : Expr} {f : DTA} (h : PI X tg e (iZip M.L.K (liftA M W f))) : PI X tg e (liftI M W (diZip f)) :=
  PIw h fun σ H R' ⟨pn, G, n, δ, q, e, R, hf, hQ, hX⟩ => by
    refine ⟨pn, G, n, δ, _, e, R, hf, fun G1 vs ds n1 H1 A1 R1 i1 h1 => ?_, hX⟩
    match ds, vs, i1, h1 with
    | [.lst xs, .lst ys], [v, u], i1, h1 =>
      simp only [IsL, Is] at i1
      obtain ⟨⟨p, vs, rfl, h2, h3⟩, ⟨p', vs', rfl, h2', h3'⟩, _⟩ := i1
      exact ⟨p, p', vs, vs', rfl, SqL.of (R1.ex _ _ h2), SqL.of (R1.ex _ _ h2'), hQ G1 _ n1 H1 _ A1 R1 (yields_zip h2 h3 h2' h3') h1⟩
    | [.lst xs, .lst ys], [], i1, _ => simp only [IsL] at i1
    | [.lst xs, .lst ys], [_], i1, _ => simp only [IsL, and_false] at i1
    | [.lst xs, .lst ys], _ :: _ :: _ :: _, i1, _ => simp only [IsL, and_false] at i1
end
end DL

set_option Elab.async false
set_option linter.all false
set_option maxRecDepth 100000
set_option maxHeartbeats 4000000
set_option autoImplicit false
/-! The data layer: comprehensions, defs, operations by values. -/
namespace DL
open PySem PySem.Spec PyProof.Rows L2
section
variable {X : Cx} {M : LK} {W : WX} {pn : Addr} {G G1 H H1 : Hp} {n : Nat} {σ : L2.St} {δ : DEnv}
def noX : DX := fun _ _ _ _ _ => False
def W0 : WX := fun _ _ _ _ => False
theorem XEnd.no {e : DX} (h : ∀ δ C ns ds n, ¬ e δ C ns ds n) : XEnd M W pn G σ δ H e := fun G' C a ns ds n' H' A' R' hx q => (h _ C ns ds n' q).elim
theorem noX_no : ∀ δ C ns ds n, ¬ noX δ C ns ds n := fun _ _ _ _ _ h => h
theorem Rep.gnone {a : Addr} (R : Rep M pn G n σ δ H) (h : H a = none) : G a = none := by
  cases e : G a with
  | none => rfl
  | some u => rw [R.ex _ _ e] at h; cases h
/-- an object aside: tracked, not among the trees -/
theorem Rep.side {p : Addr} {o : HO} (R : Rep M pn G n σ δ H) (h : H p = none) : Rep M pn G n σ δ (upd H p o) ∧ Adv pn G H G (upd H p o) := by
  obtain ⟨kvs, hk⟩ := R.hp
  have np : pn ≠ p := ne_of_none hk h
  have A : Adv pn G H G (upd H p o) := ⟨Ext.refl _, fun b u h1 _ h2 => h2, fun b u h1 _ _ => by rw [upd_ne (ne_of_none h1 h)]; exact h1, fun ⟨k, e⟩ => ⟨k, by rw [upd_ne np]; exact e⟩⟩
  refine ⟨⟨fun a u e => by rw [upd_ne (ne_of_none (R.ex _ _ e) h)]; exact R.ex _ _ e, ⟨?_, R.pen.fr⟩, R.tab.ext fun b u e => by rw [upd_ne (ne_of_none e h)]; exact e, R.nt, R.pe, R.env.up A R.hp⟩, A⟩
  obtain ⟨la, ns, a, l, h1, h2, h3⟩ := R.pen.ob
  exact ⟨la, ns, a, l, by rw [upd_ne np]; exact h1, h2, h3⟩
theorem tabs_mut {T : List (Addr × Str)} {p : Addr} {xs : List V} {o : HO} (h : LamX.Tabs T H) (hp : H p = some (.lst xs)) : LamX.Tabs T (upd H p o) := fun q hq => by
  obtain ⟨ps, h1, h2, h3⟩ := h q hq
  refine ⟨ps, by rw [upd_ne (ne_of h1 hp (by intro z; cases z))]; exact h1, h2, fun pos cv hc => ?_⟩
  obtain ⟨c, e1, e2⟩ := h3 pos cv hc
  exact ⟨c, e1, by rw [upd_ne (ne_of e2 hp (by intro z; unfold LamX.CodeO at z; cases z))]; exact e2⟩
/-- a list aside is changed -/
theorem Rep.mutS {p : Addr} {xs ys : List V} (R : Rep M pn G n σ δ H) (hp : H p = some (.lst xs)) (gp : G p = none) (hs : ∀ (i : Nat) (zs : List D), δ[i]? = some (some (.own zs)) → σ[i]? ≠ some (some (.ref p))) : Rep M pn G n σ δ (upd H p (.lst ys)) := by
  obtain ⟨kvs, hk⟩ := R.hp
  have np : pn ≠ p := ne_of hk hp (by intro z; cases z)
  refine ⟨fun a u e => ?_, ⟨?_, R.pen.fr⟩, tabs_mut R.tab hp, R.nt, R.pe, R.env.len, fun i d e => ?_, R.env.ap⟩
  · have : a ≠ p := fun z => by rw [z, gp] at e; cases e
    rw [upd_ne this]; exact R.ex _ _ e
  · obtain ⟨la, ns, a, l, h1, h2, h3⟩ := R.pen.ob
    exact ⟨la, ns, a, l, by rw [upd_ne np]; exact h1, h2, h3⟩
  · obtain ⟨v, h1, h2⟩ := R.env.at_ i d e
    refine ⟨v, h1, ?_⟩
    rcases h2 with h2 | ⟨zs, p', us, rfl, rfl, h3, h4, h5⟩
    · exact .inl h2
    · have hne : p' ≠ p := fun z => hs i zs e (by rw [h1, z])
      exact .inr ⟨zs, p', us, rfl, rfl, by rw [upd_ne hne]; exact h3, h4, h5⟩
theorem Rep.wipe {vs : List Nat} (R : Rep M pn G n σ δ H) : Rep M pn G n (L2.wipe σ vs) (wipeD δ vs) H := by
  refine ⟨R.ex, R.pen, R.tab, R.nt, R.pe, ?_⟩
  have E := R.env
  clear R
  induction vs with
  | nil => exact E
  | cons v vs ih =>
    refine ⟨by unfold L2.wipe wipeD; simp [ih.len], fun i d e => ?_, fun i j p xs ys hij e1 e2 e3 => ?_⟩
    · unfold wipeD at e
      unfold L2.wipe
      by_cases hv : v = i
      · subst hv
        have := getO e
        cases this
      · rw [List.getElem?_set_ne hv] at e ⊢
        exact ih.at_ i d e
    · unfold wipeD at e1 e2
      unfold L2.wipe at e3 ⊢
      have n1 : v ≠ i := fun z => by subst z; have := getO e1; cases this
      have n2 : v ≠ j := fun z => by subst z; have := getO e2; cases this
      rw [List.getElem?_set_ne n1] at e1 e3
      rw [List.getElem?_set_ne n2] at e2 ⊢
      exact ih.ap i j p xs ys hij e1 e2 e3
theorem wipe_wipe {σ : L2.St} {ws : List Nat} : ∀ {vs : List Nat}, (∀ v ∈ vs, v ∈ ws) → L2.wipe (L2.wipe σ vs) ws = L2.wipe σ ws
  | [], _ => rfl
  | v :: vs, h => by
    rw [show L2.wipe σ (v :: vs) = (L2.wipe σ vs).set v none from rfl, wipe_set (h v List.mem_cons_self), wipe_wipe fun u hu => h u (List.mem_cons_of_mem _ hu)]
def dYes : DTT := fun _ n q _ => q true n
theorem PTsw {X : Cx} {e : List Expr} {t t' : TT} (h : PTs X e t) (w : ∀ σ H Q, t' σ H Q → t σ H Q) : PTs X e t' := ⟨fun pins s σ H Q I q => h.run pins s σ H Q I (w _ _ _ q)⟩
theorem dts_nil : PTs X [] (liftT M W dYes) := PTsw pts_nil fun σ H Q ⟨pn, G, n, δ, q, e, R, hf, hQ, hX⟩ => hQ G true n H Adv.refl R hf
theorem dts_one {c : Expr} {f : DTT} (h : PT X c (liftT M W f)) : PTs X [c] (liftT M W f) := pts_one h
/-- [te for g in ds if tt] -/
def dLcL (g : DTG) (tt : DTT) (te : DTE) (vs : List Nat) : List D → List D → DEnv → Nat → (List D → Nat → Prop) → Prop
  | [], acc, _, n, q => q acc n
  | d :: ds, acc, δ, n, q => acc.length < 100000 ∧ g d (wipeD δ vs) fun δ2 => tt δ2 n (fun b n1 => match b with
    | true => te δ2 n1 (fun y n2 => dLcL g tt te vs ds (acc ++ [y]) δ n2 q) noX
    | false => dLcL g tt te vs ds acc δ n1 q) noX
def dLc (it : DTI) (g : DTG) (tt : DTT) (te : DTE) (vs : List Nat) : DTE := fun δ n q e => it δ n (fun ds n1 => dLcL g tt te vs ds [] δ n1 fun ys n2 => q (.lst ys) n2) e
theorem liftE_lc {it : DTI} {g : DTG} {tt : DTT} {te : DTE} {vs : List Nat} (σ : L2.St) (H : Hp) (Q : VK) (h : liftE M W (dLc it g tt te vs) σ H Q) : tLc (liftI M W it) (liftG M vs g) (liftT M W0 tt) (liftE M W0 te) vs σ H Q := by
  obtain ⟨pn, G, n, δ, q, e, R, hf, hQ, hX⟩ := h
  refine ⟨pn, G, n, δ, _, e, R, hf, fun G1 ds n1 H1 J A1 R1 Y h1 => ?_, hX⟩
  intro Dd hD
  obtain ⟨RD, AD⟩ := R1.side (o := .lst []) hD
  have own0 : ∀ (i : Nat) (zs : List D), δ[i]? = some (some (.own zs)) → σ[i]? ≠ some (some (.ref Dd)) := fun i zs e1 e2 => by
    obtain ⟨v, h1, h2⟩ := R1.env.at_ i _ e1
    rw [e2] at h1
    cases h1
    rcases h2 with h2 | ⟨_, p, us, _, ep, h3, _⟩
    · simp only [Is] at h2
    · cases ep
      rw [hD] at h3
      cases h3
  refine ⟨fun i m H' => m = ds.length - i ∧ i ≤ ds.length ∧ ∃ G' n' acc us, Rep M pn G' n' σ δ H' ∧ Adv pn G1 H1 G' H' ∧ H' Dd = some (.lst us) ∧ G' Dd = none ∧ IsL M G' us acc ∧ dLcL g tt te vs (ds.drop i) acc δ n' fun ys n2 => q (.lst ys) n2,
    ⟨ds.length, rfl, Nat.zero_le _, G1, n1, [], [], RD, AD, upd_same, R1.gnone hD, by simp only [IsL], h1⟩, ?_⟩
  rintro i m H2 ⟨rfl, hi, G2, n2, acc, us, R2, A2, hl2, gl2, il2, h2⟩
  by_cases hlt : i < ds.length
  · obtain ⟨d, hd⟩ : ∃ d, ds[i]? = some d := ⟨ds[i], by simp [hlt]⟩
    have e1 : ds.drop i = d :: ds.drop (i + 1) := by
      rw [List.drop_eq_getElem_cons hlt]
      congr 1
      rw [List.getElem?_eq_getElem hlt] at hd
      exact Option.some.inj hd
    rw [e1] at h2
    obtain ⟨hlen, h2⟩ := h2
    obtain ⟨g1, g2⟩ := Y.go i G2 H2 n2 σ δ A2 R2 d hd
    refine .inr ⟨g1, fun H' => ∃ G' n' acc us, Rep M pn G' n' σ δ H' ∧ Adv pn G1 H1 G' H' ∧ H' Dd = some (.lst us) ∧ G' Dd = none ∧ IsL M G' us acc ∧ dLcL g tt te vs (ds.drop (i + 1)) acc δ n' fun ys n2 => q (.lst ys) n2,
      fun H' h' => ⟨ds.length - (i + 1), by omega, rfl, hlt, h'⟩, fun x H3 hy => ?_⟩
    obtain ⟨G3, A3, R3, i3⟩ := g2 x H3 hy
    refine ⟨pn, G3, n2, wipeD δ vs, d, _, R3.wipe, i3, h2, fun G4 σ4 δ4 H4 A4 R4 w4 h4 => ?_⟩
    refine ⟨w4.trans (wipe_wipe fun _ h => h), pn, G4, n2, δ4, _, noX, R4, h4, fun G5 b n5 H5 A5 R5 h5 => ?_, XEnd.no noX_no⟩
    have A25 := R2.tr A3 (R3.tr A4 (R4.tr A5 Adv.refl))
    have npn : Dd ≠ pn := fun z => by
      obtain ⟨kvs, hk⟩ := R2.hp
      rw [z, hk] at hl2
      cases hl2
    cases b with
    | true =>
      refine iteT ⟨pn, G5, n5, δ4, _, noX, R5, h5, fun G6 v y n6 H6 A6 R6 i6 h6 => ?_, XEnd.no noX_no⟩
      have A26 := R2.tr A25 A6
      have hl6 := A26.fr Dd _ hl2 notTbl_lst npn
      have gl6 := A26.gn Dd _ hl2 mut_lst gl2
      have R6' : Rep M pn G6 n6 σ δ H6 := ⟨R6.ex, R6.pen, R6.tab, R6.nt, R6.pe, R2.env.up A26 R2.hp⟩
      have A16 := R1.tr A2 A26
      refine ⟨us, hl6, by rw [il2.length]; exact Nat.lt_of_lt_of_le hlen (le_line (Nat.le_refl _)), G6, n6, acc ++ [y], us ++ [v], R6'.mutS hl6 gl6 own0, ⟨A16.ge, A16.gn, fun b o h1 h2 h3 => ?_, fun hk => ?_⟩, upd_same, gl6, IsL.append (IsL.up A26.ge acc us il2) (by simp only [IsL]; exact ⟨i6, trivial⟩), h6⟩
      · rw [upd_ne (ne_of_none h1 hD)]; exact A16.fr b o h1 h2 h3
      · obtain ⟨k, hk'⟩ := A16.pk hk
        exact ⟨k, by rw [upd_ne (Ne.symm npn)]; exact hk'⟩
    | false =>
      refine iteF ⟨G5, n5, acc, us, ⟨R5.ex, R5.pen, R5.tab, R5.nt, R5.pe, R2.env.up A25 R2.hp⟩, R1.tr A2 A25, A25.fr Dd _ hl2 notTbl_lst npn, A25.gn Dd _ hl2 mut_lst gl2, IsL.up A25.ge acc us il2, h5⟩
  · have e : i = ds.length := by omega
    subst e
    rw [List.drop_length] at h2
    refine .inl ⟨Y.stop G2 H2 n2 σ δ A2 R2, ?_⟩
    have A02 := R.tr A1 A2
    have npn : pn ≠ Dd := fun z => by
      obtain ⟨kvs, hk⟩ := R2.hp
      rw [z, hl2] at hk
      cases hk
    refine hQ (upd G2 Dd (.lst us)) (.ref Dd) (.lst acc) n2 H2 ⟨A02.ge.trans (Ext.new gl2), fun b o h1 h2 h3 => ?_, A02.fr, A02.pk⟩ ⟨fun a u ea => ?_, ⟨?_, by rw [upd_ne npn]; exact R2.pen.fr⟩, R2.tab, fun a u ea => ?_, R2.pe, ⟨R2.env.len, fun j x ex => ?_, R2.env.ap⟩⟩ ?_ h2
    · by_cases hb : b = Dd
      · have hz := A1.fr b o h1 h2.nt (fun z => npn (z.symm.trans hb))
        rw [hb, hD] at hz
        cases hz
      · rw [upd_ne hb]; exact A02.gn b o h1 h2 h3
    · by_cases ha : a = Dd
      · subst ha; rw [upd_same] at ea; cases ea; exact hl2
      · rw [upd_ne ha] at ea; exact R2.ex _ _ ea
    · obtain ⟨la, ns, a, l, h1, h2, h3⟩ := R2.pen.ob
      exact ⟨la, ns, a, l, h1, Ext.new gl2 _ _ h2, h3⟩
    · by_cases ha : a = Dd
      · subst ha; rw [upd_same] at ea; cases ea; exact notTbl_lst
      · rw [upd_ne ha] at ea; exact R2.nt _ _ ea
    · obtain ⟨v, h1, h2⟩ := R2.env.at_ j x ex
      refine ⟨v, h1, ?_⟩
      rcases h2 with h2 | ⟨zs, p', us', rfl, rfl, h3, h4, h5⟩
      · exact .inl (Is.up (Ext.new gl2) _ _ h2)
      · have hne : p' ≠ Dd := fun z => own0 j zs ex (by rw [h1, z])
        exact .inr ⟨zs, p', us', rfl, rfl, h3, by rw [upd_ne hne]; exact h4, IsL.up (Ext.new gl2) _ _ h5⟩
    · simp only [Is]; exact ⟨Dd, us, rfl, upd_same, IsL.up (Ext.new gl2) _ _ il2⟩
theorem dp_lc {ex : Expr} {it : DTI} {g : DTG} {tt : DTT} {te : DTE} {vs : List Nat} (h : PE X ex (tLc (liftI M W it) (liftG M vs g) (liftT M W0 tt) (liftE M W0 te) vs)) : PE X ex (liftE M W (dLc it g tt te vs)) := PEw h liftE_lc
/-- y = [..] -/
theorem ds_setLc {st : Stmt} {it : DTI} {g : DTG} {tt : DTT} {te : DTE} {vs : List Nat} {i : Nat} (h : PS X st (tAsg (tLc (liftI M W it) (liftG M vs g) (liftT M W0 tt) (liftE M W0 te) vs) (gName i))) : PS X st (liftS M W (dAsg (dLc it g tt te vs) (dgName i))) :=
  PSw h fun D₀ σ H hl => liftE_lc σ H _ (liftS_set D₀ σ H hl)
end
/-! ### defs -/
/-- a def's promise over trees: arguments, draws so far, what is wanted of a value, of an exception -/
abbrev DY := Addr → List Str → List D → Nat → Prop
abbrev DSp := List D → Nat → (D → Nat → Prop) → DY → Prop
def lift (M : LK) (k : Nat) (s : DSp) : Sp := fun vs H Q E => ∃ pn G n ds q e, Rep M pn G n [] [] H ∧ IsL M G vs ds ∧ ds.length = k ∧ s ds n q e ∧
  (∀ G' v d n' H', Adv pn G H G' H' → Rep M pn G' n' [] [] H' → Is M G' v d → q d n' → Q v H') ∧ (∀ G' C a ns xs n' H', Adv pn G H G' H' → Rep M pn G' n' [] [] H' → XIs M G' a ns xs → e C ns xs n' → E (.ref C) (some a) H')
def startD (N : List Str) (ds : List D) : DEnv := ds.map some ++ List.replicate (N.length - ds.length) none
section
variable {X : Cx} {M : LK} {W : WX} {pn : Addr} {G G1 H H1 : Hp} {n : Nat} {σ : L2.St} {δ : DEnv}
theorem Rep.bare (R : Rep M pn G n σ δ H) : Rep M pn G n [] [] H := ⟨R.ex, R.pen, R.tab, R.nt, R.pe, ⟨rfl, fun i d e => by simp at e, fun i j p xs ys _ e => by simp at e⟩⟩
theorem Rep.back {G' H' : Hp} {n' : Nat} (R : Rep M pn G n σ δ H) (R' : Rep M pn G' n' [] [] H') (A : Adv pn G H G' H') : Rep M pn G' n' σ δ H' := ⟨R'.ex, R'.pen, R'.tab, R'.nt, R'.pe, R.env.up A R.hp⟩
theorem Rep.start {N : List Str} {vs : List V} {ds : List D} (R : Rep M pn G n [] [] H) (h : IsL M G vs ds) : Rep M pn G n (L2.start N vs) (startD N ds) H := by
  refine ⟨R.ex, R.pen, R.tab, R.nt, R.pe, ⟨?_, fun i d e => ?_, fun i j p xs ys hij e1 e2 e3 => ?_⟩⟩
  · unfold L2.start startD; simp [h.length]
  · unfold startD at e
    unfold L2.start
    by_cases hi : i < ds.length
    · rw [List.getElem?_append_left (by simpa using hi), List.getElem?_map] at e
      cases ed : ds[i]? with
      | none => rw [ed] at e; cases e
      | some d' =>
        rw [ed] at e
        cases e
        obtain ⟨v, h1, h2⟩ := IsL.get h ed
        refine ⟨v, ?_, .inl h2⟩
        rw [List.getElem?_append_left (by simpa [h.length] using hi), List.getElem?_map, h1]
        rfl
    · rw [List.getElem?_append_right (by simpa using hi), List.getElem?_replicate] at e
      split at e <;> cases e
  · unfold startD at e1
    by_cases hi : i < ds.length
    · rw [List.getElem?_append_left (by simpa using hi), List.getElem?_map] at e1
      cases ed : ds[i]? with
      | none => rw [ed] at e1; cases e1
      | some d' =>
        rw [ed] at e1
        cases e1
        obtain ⟨v, h1, h2⟩ := IsL.get h ed
        simp only [Is] at h2
    · rw [List.getElem?_append_right (by simpa using hi), List.getElem?_replicate] at e1
      split at e1 <;> cases e1
theorem lift_len {k : Nat} {s : DSp} {vs : List V} {H : Hp} {Q : VK} {E : XK} (h : lift M k s vs H Q E) : vs.length = k := by
  obtain ⟨pn, G, n, ds, q, e, R, hi, hk, _⟩ := h
  rw [hi.length, hk]
/-- THE RULE for a def -/
theorem dfn {P : Program} {w : World} {mg : Str → Option Value} {base : Heap} {x qual : Str} {st : Stmt} {f : Addr} {fd : FuncData} {N ps : List Str} {k : Nat} {s : DSp} (F : Fun M.L.K x qual st f fd) (S : FnScope N ps (defScope st)) (t : DTS)
    (hb : ∀ (cdv : Value) (A : Around) (outer : List Env) (s0 : Shared) (H : Hp) (E : XK), Room k (A.deeper (envOfC qual (defScope st) s0.heap.objs.size f cdv)) →
      PSs (cxOf (L2.CX P w) P w M.L.K mg base N qual (defScope st) f cdv A outer s0 H E) (defBody st) (liftS M (fun cls d _ H' => E cls d H') t))
    (hs : ∀ ds n q e, ds.length = ps.length → s ds n q e → t { nx := fun _ n' => q .non n', rt := q, ex := fun _ => e } (startD N ds) n) :
    FnOk P w M.L.K mg base (L2.CX P w) (k + 1) f fd ps (lift M ps.length s) := by
  refine F.okX S (fun vs H Q E h => lift_len h) (fun cdv A outer s0 H vs Q E hr h => ⟨_, hb cdv A outer s0 H E hr, ?_⟩)
  obtain ⟨pn, G, n, ds, q, e, R, hi, hk, hsp, hQ, hE⟩ := h
  refine ⟨pn, G, n, _, _, R.start hi, hs ds n q e hk hsp, ⟨fun G' σ' δ' n' H' A' R' h' => hQ G' .non .non n' H' A' R'.bare (by simp only [Is]) h', fun G' σ' δ' v d n' H' A' R' i' h' => hQ G' v d n' H' A' R'.bare i' h', fun G' σ' δ' n' H' A' R' h' => h'.elim, fun G' σ' δ' n' H' A' R' h' => h'.elim,
    fun G' σ' δ' C a ns xs n' H' A' R' x' h' => hE G' C a ns xs n' H' A' R'.bare x' h'⟩⟩
/-- a call of a def -/
def dCall (k : Nat) (s : DSp) (dds : List D) (f : DTA) : DTE := fun δ n q e => f δ n (fun xs n1 => (xs ++ dds).length = k ∧ s (xs ++ dds) n1 q (e δ)) e
theorem dp_call {ex : Expr} {k : Nat} {s : DSp} {dvs : List V} {dds : List D} {f : DTA} (h : PE X ex (tCallSD (lift M k s) dvs (fun σ cls d H' => W cls d σ H') (liftA M W f))) (hd : ∀ G, IsL M G dvs dds) : PE X ex (liftE M W (dCall k s dds f)) :=
  PEw h fun σ H Q ⟨pn, G, n, δ, q, e, R, hf, hQ, hX⟩ => by
    refine ⟨pn, G, n, δ, _, e, R, hf, fun G1 vs ds n1 H1 A1 R1 i1 h1 => ?_, hX⟩
    refine ⟨pn, G1, n1, ds ++ dds, q, e δ, R1.bare, IsL.append i1 (hd G1), h1.1, h1.2, fun G2 v d n2 H2 A2 R2 i2 h2 => hQ G2 v d n2 H2 (R.tr A1 A2) (R1.back R2 A2) i2 h2, fun G2 C a ns xs n2 H2 A2 R2 x2 h2 => hX G2 C a ns xs n2 H2 (R.tr A1 A2) (R1.back R2 A2) x2 h2⟩
end
end DL

set_option Elab.async false
set_option linter.all false
set_option maxRecDepth 100000
set_option maxHeartbeats 4000000
set_option autoImplicit false
/-! list(text): a new list of its signs. -/
namespace LS
open PySem PySem.W PySem.Calls PyProof.Rows PyProof.V PySem.Spec
section
variable {prog : Program} {w : World} {A : Around} {E : Value → Shared → Prop} {s : Shared} {x : Str} {t : Tok}
theorem hint_str {Q : Bool → Shared → Prop} (h : Q false s) : wpAny (model prog w) A (Builtin.List.listLengthHint (.str x t)) Q E s := by
  have hT : s.TypeIs (.str x t) "str" := typeIs_str s x t
  unfold Builtin.List.listLengthHint
  refine wpAny_bind (wpAny_specialOf hT PySem.F.slot_str_len.lookup ?_)
  generalize hid : ("str.__len__" : String) = id0
  wp_delta
  rw [show splitId id0 = some ("str", "__len__") from by subst hid; decide +kernel]
  subst hid
  refine wpAny_bind (wpAny_isInstance (T := "str") (b := true) hT (by rw [isSubtype_type]; kernel_rfl) ?_)
  refine wpAny_ite_split (fun hab => absurd hab (by decide)) (fun _ => ?_)
  refine wpAny_ite_split (fun _ => ?_) (fun hab => absurd (by decide +kernel) hab)
  refine wpAny_bind (wpAny_typeOf hT ?_)
  exact wpAny_pure h
theorem extend_str {R : Result → Shared → Prop} (hh : A.handled = none) (S : Addr) (res : Value) (c₀ : Nat) (hS : s.heap.get? S = some { cls := .type "list", data := .seq #[] c₀ })
    (hR : ∀ h' tk acc' c', (∀ b o, b ≠ S → s.heap.get? b = some o → h'.get? b = some o) → h'.get? S = some { cls := .type "list", dict := none, data := .seq acc' c', slots := #[] } → ItemsOf (SignAt x) acc' x.cps.size → R (.ok (.ret res)) { s with heap := h', toks := tk }) (hn : x.cps.size ≤ sizeLine) :
    wpAny (model prog w) A.in1 (Builtin.List.listExtendWith (.ref S) (.str x t) res)
      (fun fin s' => match fin with | .done f => R (.ok f) s' | .again c' => c'.quiet = true ∧ codeAny (model prog w) A c' R s') (fun e s' => R (.error e) s') s := by
  have hSI : S ≠ s.heap.objs.size := Nat.ne_of_lt (Heap.lt_size hS)
  have hSf : S ∉ [s.heap.objs.size] := by simp only [List.mem_cons, List.not_mem_nil, or_false]; exact hSI
  unfold Builtin.List.listExtendWith
  refine wpAny_bind (wpAny_typeOf (T := "str") (typeIs_str s x t) ?_)
  have h1 : Builtin.List.listSameRef (.ref S) (.str x t) = false := rfl
  have h2 : (Value.type "str" == Value.type "list") = false := by decide
  have h3 : (Value.type "str" == Value.type "tuple") = false := by decide
  simp only [h1, h2, h3, Bool.or_false, Bool.false_eq_true, if_false]
  refine wpAny_bind (wpAny_pyIter_str fun oI St W st => ?_)
  have key : ∀ (h : Heap) (c₁ tk : Nat), St 0 h → (∀ b o, b ≠ S → s.heap.get? b = some o → h.get? b = some o) →
      h.get? S = some { cls := .type "list", data := .seq #[] c₁ } → codeAny (model prog w) A (.builtin "list.extend.loop" ⟨[.ref S, .ref s.heap.objs.size, res], []⟩) R { s with heap := h, toks := tk } := by
    intro h c₁ tk hst hk hS₁
    refine codeAny_extend_loopS (W A.in1 hh).toS hn S hSf res x.cps.size 0 _ #[] c₁ rfl (Nat.zero_le _) hst hS₁ (ItemsOf.nil _) fun s' acc' c' hm hS' hacc => ?_
    rw [Moved.eq_with hm]
    refine hR s'.heap s'.toks acc' c' (fun b o hb e => hm.heap b o (fun hmem => ?_) (hk b o hb e)) hS' hacc
    rcases List.mem_cons.mp hmem with e' | hmem
    · exact hb e'
    · exact absurd (Heap.lt_size e) (by rw [List.mem_singleton.mp hmem]; exact Nat.lt_irrefl _)
  have hS₁ := Heap.get?_push_of_some oI hS
  refine wpAny_bind (wpAny_holding (hint_str ?_))
  refine wpAny_ite_split (fun hab => absurd hab (by decide)) (fun _ => wpAny_pure ⟨plainId_quiet PySem.F.plain_extend_loop _, key _ c₀ _ st (fun b o _ e => Heap.get?_push_of_some _ e) hS₁⟩)
theorem init_str {R : Result → Shared → Prop} (hh : A.handled = none) (S : Addr) (hS : s.heap.get? S = some { cls := .type "list", data := .seq #[] })
    (hR : ∀ h' tk acc' c', (∀ b o, b ≠ S → s.heap.get? b = some o → h'.get? b = some o) → h'.get? S = some { cls := .type "list", dict := none, data := .seq acc' c', slots := #[] } → ItemsOf (SignAt x) acc' x.cps.size → R (.ok (.ret .none)) { s with heap := h', toks := tk }) (hn : x.cps.size ≤ sizeLine) :
    wpAny (model prog w) A.in1 (Builtin.«list.__init__» ⟨[.ref S, .str x t], []⟩)
      (fun fin s' => match fin with | .done f => R (.ok f) s' | .again c' => c'.quiet = true ∧ codeAny (model prog w) A c' R s') (fun e s' => R (.error e) s') s := by
  show wpAny _ _ (do let old ← Builtin.List.listItems (.ref S); Builtin.List.listUpdate (.ref S) (fun _ => #[]); letGo old.toList.reverse; Builtin.List.listExtendWith (.ref S) (.str x t) .none) _ _ s
  refine wpAny_bind ?_
  unfold Builtin.List.listItems
  refine wpAny_bind (wpAny_seqItems hS rfl (wpAny_pure ?_))
  show wpAny _ _ (updateSeq S (fun _ => #[]) >>= fun _ => letGo (#[] : Array Value).toList.reverse >>= fun _ => Builtin.List.listExtendWith (.ref S) (.str x t) .none) _ _ s
  refine wpAny_bind (wpAny_updateSeq hS rfl ?_)
  have hS₂ := Heap.get?_update_self (Obj.mapSeq (fun _ => (#[] : Array Value))) hS rfl
  have oth : ∀ b o, b ≠ S → s.heap.get? b = some o → (s.heap.update S (Obj.mapSeq (fun _ => (#[] : Array Value)))).get? b = some o :=
    fun b o hb e => (Heap.get?_update_other _ _ (Ne.symm hb)).trans e
  refine wpAny_bind (wpAny_letGo ?_)
  refine extend_str hh S .none _ hS₂ (fun h' tk acc' c' hk hS' hacc => ?_) hn
  exact hR h' tk acc' c' (fun b o hb e => hk b o hb (oth b o hb e)) hS' hacc
theorem call_str {Q : Value → Shared → Prop} (hh : A.handled = none) (hn : x.cps.size ≤ sizeLine)
    (hQ : ∀ h' tk acc' c', (∀ b o, s.heap.get? b = some o → h'.get? b = some o) → h'.get? s.heap.objs.size = some { cls := .type "list", dict := none, data := .seq acc' c', slots := #[] } → ItemsOf (SignAt x) acc' x.cps.size → Q (.ref s.heap.objs.size) { s with heap := h', toks := tk }) :
    wpAny (model prog w) A (call (.type "list") [.str x t]) Q E s := by
  refine callType_codes (Q₁ := fun obj s₁ => obj = .ref s.heap.objs.size ∧ s₁ = { s with heap := s.heap.push { cls := .type "list", data := .seq #[] } }) PySem.F.called_list (PySem.F.typeCall_list_1 _) PySem.F.entry_list_init
    (code_list_new _ ⟨rfl, rfl⟩) fun obj s₁ h₁ => ?_
  obtain ⟨rfl, rfl⟩ := h₁
  have hS : (s.heap.push { cls := .type "list", data := .seq #[] }).get? s.heap.objs.size = some { cls := .type "list", data := .seq #[] } := Heap.get?_push_size _ rfl
  refine ⟨⟨_, hS, rfl⟩, PySem.F.args_list_init_2 _ _, init_str (A := A.in1) hh _ hS (fun h' tk acc' c' hk hS' hacc => ?_) hn⟩
  exact ⟨rfl, hQ h' tk acc' c' (fun b o e => hk b o (Nat.ne_of_lt (Heap.lt_size e)) (Heap.get?_push_of_some _ e)) hS' hacc⟩
end
end LS
namespace L2
open PySem PySem.Spec PyProof.Rows
theorem vals_signs {x : Str} {acc : Array Value} (h : ItemsOf (SignAt x) acc x.cps.size) : Vals (x.cps.toList.map fun c => V.str ⟨#[c]⟩) acc.toList := by
  have key : ∀ (l : List Nat) (vs : List Value), vs.length = l.length → (∀ (j : Nat) (v : Value), vs[j]? = some v → ∃ (c : Nat) (u : Tok), l[j]? = some c ∧ v = Value.str ⟨#[c]⟩ u) → Vals (l.map fun c => V.str ⟨#[c]⟩) vs := by
    intro l
    induction l with
    | nil =>
      intro vs hl _
      cases vs with
      | nil => exact .nil
      | cons _ _ => cases hl
    | cons c l ih =>
      intro vs hl hv
      cases vs with
      | nil => cases hl
      | cons v vs =>
        obtain ⟨c', u, e1, e2⟩ := hv 0 v rfl
        cases e1
        subst e2
        exact .cons ⟨u, rfl⟩ (ih vs (by simpa using hl) fun j v' e => by simpa using hv (j + 1) v' (by simpa using e))
  refine key _ _ (by rw [Array.length_toList, h.1, Array.length_toList]) fun j v e => ?_
  obtain ⟨c, u, e1, e2⟩ := h.2 j v (by simpa using e)
  exact ⟨c, u, by simpa using e1, e2⟩
theorem call_list_str {X : Cx} (hc : X.calm = true) : CallR X (.type "list") (fun xs H Q => ∃ z : Str, xs = [.str z] ∧ z.length ≤ sizeLine ∧ ∀ l, H l = none → Q (.ref l) (upd H l (.lst (z.cps.toList.map fun c => V.str ⟨#[c]⟩)))) := by
  intro pins s σ H xs us Q I r h
  obtain ⟨z, rfl, hl, q⟩ := h
  obtain ⟨u, rfl, rx⟩ := vals1 r
  obtain ⟨t, rfl⟩ := rx
  refine LS.call_str (I.ok.hd hc) hl fun h' tk acc' c' kp e hacc => ?_
  have r' := vals_signs hacc
  exact ⟨.ref s.heap.objs.size, _, I.laid (t' := tk) kp (Nat.le_refl _) (show ObjOk X.prog X.w _ h' _ (.lst _) from ⟨by rw [List.length_map, Array.length_toList]; exact hl, acc'.toList, c', r', by rw [Array.toArray_toList]; exact e⟩), rfl, q _ (I.hok.fresh (Nat.le_refl _))⟩
end L2

set_option Elab.async false
set_option linter.all false
set_option maxRecDepth 100000
set_option maxHeartbeats 4000000
set_option autoImplicit false
/-! The data layer: operations by values. -/
namespace DL
open PySem PySem.Spec PyProof.Rows L2
abbrev GR2 := D → D → Nat → (D → Nat → Prop) → Prop
theorem S_len (l : List Nat) : (S l).length = l.length := by simp [S, Str.length]
theorem S_app (a b : List Nat) : S a ++ S b = S (a ++ b) := by
  show Str.mk _ = _
  simp
theorem S_inj {a b : List Nat} : S a = S b ↔ a = b := ⟨fun h => by have := congrArg (fun x : Str => x.cps.toList) h; simpa using this, fun h => by rw [h]⟩
theorem S_cps (a : List Nat) : (S a).cps.toList = a := by simp
section
variable {X : Cx} {M : LK} {W : WX}
/-! ### + -/
def gAdd : GR2 := fun x y n q => match x, y with
  | .int i, .int j => q (.int (i + j)) n
  | .str a, .str b => a.length + b.length ≤ 100000 ∧ q (.str (a ++ b)) n
  | .lst a, .lst b => a.length + b.length ≤ 100000 ∧ q (.lst (a ++ b)) n
  | .tup a, .tup b => a.length + b.length ≤ 100000 ∧ q (.tup (a ++ b)) n
  | _, _ => False
def rAddX (K : Frag) : R2 := fun x y H Q => (((∃ i j, x = V.int i ∧ y = V.int j ∧ Q (.int (i + j)) H) ∨ (∃ i j, x = V.str i ∧ y = V.str j ∧ i.length + j.length ≤ sizeLine ∧ Q (.str (i ++ j)) H)) ∨ rCat x y H Q) ∨ rCatA K x y H Q
theorem op_addX (hK : X.K = M.L.K) : OpR X (binaryOp .Add) (rAddX M.L.K) := hK ▸ OpR.or (OpR.or (OpR.or op_add op_add_str) op_cat) op_catA
theorem IsL.nil_iff {G : Hp} {vs : List V} {ds : List D} (h : IsL M G vs ds) : vs = [] ↔ ds = [] := by
  have e1 := h.length
  constructor
  · intro e
    rw [e] at e1
    exact List.eq_nil_of_length_eq_zero e1.symm
  · intro e
    rw [e] at e1
    exact List.eq_nil_of_length_eq_zero e1
theorem dr_add : DR2 M (rAddX M.L.K) gAdd := by
  intro pn G n σ δ H v u x y q Q R ix iy h k
  unfold gAdd at h
  split at h
  · rename_i i j
    simp only [Is] at ix iy
    exact .inl (.inl (.inl ⟨i, j, ix, iy, k G _ (.int (i + j)) n H Adv.refl R (by simp only [Is]) h⟩))
  · rename_i a b
    simp only [Is] at ix iy
    refine .inl (.inl (.inr ⟨S a, S b, ix, iy, by rw [S_len, S_len]; exact le_line h.1, ?_⟩))
    exact k G _ (.str (a ++ b)) n H Adv.refl R (by simp only [Is]; rw [S_app]) h.2
  · rename_i a b
    simp only [Is] at ix iy
    obtain ⟨p, vs, rfl, h1, h2⟩ := ix
    obtain ⟨p', us, rfl, h3, h4⟩ := iy
    refine .inl (.inr ⟨p, p', vs, us, rfl, rfl, R.ex _ _ h1, R.ex _ _ h3, by rw [h2.length, h4.length]; exact le_line h.1, fun l hl => ?_⟩)
    obtain ⟨R2, A2⟩ := R.lay (o := .lst (vs ++ us)) hl notTbl_lst
    exact k _ _ (.lst (a ++ b)) n _ A2 R2 (by simp only [Is]; exact ⟨l, _, rfl, upd_same, IsL.append (IsL.up A2.ge _ _ h2) (IsL.up A2.ge _ _ h4)⟩) h.2
  · rename_i a b
    have ix' := ix
    have iy' := iy
    simp only [Is] at ix iy
    obtain ⟨p, vs, rfl, h1, h2⟩ := ix
    obtain ⟨p', us, rfl, h3, h4⟩ := iy
    refine .inr ⟨p, p', vs, us, rfl, rfl, R.ex.seqT h1, R.ex.seqT h3, by rw [h2.length, h4.length]; exact le_line h.1, fun e => ?_, fun _ e => ?_, fun _ _ l hl => ?_⟩
    · have e2 := h2.nil_iff.mp e
      subst e2
      exact k G _ (.tup b) n H Adv.refl R iy' h.2
    · have e2 := h4.nil_iff.mp e
      subst e2
      exact k G _ (.tup a) n H Adv.refl R ix' (by simpa using h.2)
    · obtain ⟨R2, A2⟩ := R.lay (o := .tup (vs ++ us)) hl notTbl_tup
      exact k _ _ (.tup (a ++ b)) n _ A2 R2 (by simp only [Is]; exact ⟨l, _, rfl, SqT.of upd_same, IsL.append (IsL.up A2.ge _ _ h2) (IsL.up A2.ge _ _ h4)⟩) h.2
  · exact h.elim
theorem dp_add {a b : Expr} {pos : Pos} {fa fb : DTE} (hK : X.K = M.L.K) (ha : PE X a (liftE M W fa)) (hb : PE X b (liftE M W fb)) : PE X (.BinOp a .Add b pos) (liftE M W (dOp gAdd fa fb)) := dp_op (op_addX hK) dr_add ha hb
/-! ### ints -/
def gI (C : Int → Int → Prop) (g : Int → Int → D) : GR2 := fun x y n q => match x, y with
  | .int i, .int j => C i j ∧ q (g i j) n
  | _, _ => False
theorem dr_I {C C' : Int → Int → Prop} {g : Int → Int → V} {g' : Int → Int → D} (hc : ∀ i j, C' i j → C i j) (hg : ∀ G i j, Is M G (g i j) (g' i j)) : DR2 M (rI C g) (gI C' g') := by
  intro pn G n σ δ H v u x y q Q R ix iy h k
  unfold gI at h
  split at h
  · rename_i i j
    simp only [Is] at ix iy
    exact ⟨i, j, ix, iy, hc i j h.1, k G _ _ n H Adv.refl R (hg G i j) h.2⟩
  · exact h.elim
def gI0 (g : Int → Int → D) : GR2 := fun x y n q => match x, y with
  | .int i, .int j => q (g i j) n
  | _, _ => False
theorem dr_I0 {g : Int → Int → V} {g' : Int → Int → D} (hg : ∀ G i j, Is M G (g i j) (g' i j)) : DR2 M (rI0 g) (gI0 g') := by
  intro pn G n σ δ H v u x y q Q R ix iy h k
  unfold gI0 at h
  split at h
  · rename_i i j
    simp only [Is] at ix iy
    exact ⟨i, j, ix, iy, k G _ _ n H Adv.refl R (hg G i j) h⟩
  · exact h.elim
abbrev gSub : GR2 := gI0 fun i j => .int (i - j)
theorem dp_sub {a b : Expr} {pos : Pos} {fa fb : DTE} (ha : PE X a (liftE M W fa)) (hb : PE X b (liftE M W fb)) : PE X (.BinOp a .Sub b pos) (liftE M W (dOp gSub fa fb)) := dp_op op_sub (dr_I0 fun _ _ _ => by simp only [Is]) ha hb
/-- what * asks: one factor within 64 bits, or both together below a million -/
def MulOk (i j : Int) : Prop := ((-(2 ^ 64) < i ∧ i < 2 ^ 64) ∨ (-(2 ^ 64) < j ∧ j < 2 ^ 64)) ∨ i.natAbs.log2 + j.natAbs.log2 < 1000000
theorem op_mulX : OpR X (binaryOp .Mult) (rI MulOk fun i j => .int (i * j)) := by
  intro pins s σ H x y v u Q I rx ry h
  obtain ⟨i, j, e1, e2, hc, q⟩ := h
  rcases hc with hc | hc
  · exact op_mul pins s σ H x y v u Q I rx ry ⟨i, j, e1, e2, hc, q⟩
  · exact op_mulW pins s σ H x y v u Q I rx ry ⟨i, j, e1, e2, hc, q⟩
abbrev gMul : GR2 := gI MulOk fun i j => .int (i * j)
theorem dp_mul {a b : Expr} {pos : Pos} {fa fb : DTE} (ha : PE X a (liftE M W fa)) (hb : PE X b (liftE M W fb)) : PE X (.BinOp a .Mult b pos) (liftE M W (dOp gMul fa fb)) := dp_op op_mulX (dr_I (fun _ _ h => h) fun _ _ _ => by simp only [Is]) ha hb
def DivOk (i j : Int) : Prop := 0 < j ∧ (j < 1073741824 ∨ j.natAbs.log2 < 9000)
theorem op_divX : OpR X (binaryOp .FloorDiv) (rI DivOk fun i j => .int (i / j)) := by
  intro pins s σ H x y v u Q I rx ry h
  obtain ⟨i, j, e1, e2, hc, q⟩ := h
  rcases hc.2 with h2 | h2
  · exact op_fdiv pins s σ H x y v u Q I rx ry ⟨i, j, e1, e2, ⟨hc.1, h2⟩, q⟩
  · exact op_fdivW pins s σ H x y v u Q I rx ry ⟨i, j, e1, e2, ⟨hc.1, h2⟩, q⟩
abbrev gDiv : GR2 := gI DivOk fun i j => .int (i / j)
theorem dp_div {a b : Expr} {pos : Pos} {fa fb : DTE} (ha : PE X a (liftE M W fa)) (hb : PE X b (liftE M W fb)) : PE X (.BinOp a .FloorDiv b pos) (liftE M W (dOp gDiv fa fb)) := dp_op op_divX (dr_I (fun _ _ h => h) fun _ _ _ => by simp only [Is]) ha hb
abbrev gMod : GR2 := gI (fun _ j => 0 < j) fun i j => .int (i % j)
theorem dp_mod {a b : Expr} {pos : Pos} {fa fb : DTE} (ha : PE X a (liftE M W fa)) (hb : PE X b (liftE M W fb)) : PE X (.BinOp a .Mod b pos) (liftE M W (dOp gMod fa fb)) := dp_op op_mod (dr_I (fun _ _ h => h) fun _ _ _ => by simp only [Is]) ha hb
abbrev gPow : GR2 := gI CPow fun i j => .int (i ^ j.toNat)
theorem dp_pow {a b : Expr} {pos : Pos} {fa fb : DTE} (ha : PE X a (liftE M W fa)) (hb : PE X b (liftE M W fb)) : PE X (.BinOp a .Pow b pos) (liftE M W (dOp gPow fa fb)) := dp_op op_pow (dr_I (fun _ _ h => h) fun _ _ _ => by simp only [Is]) ha hb
def dNeg (f : DTE) : DTE := fun δ n q e => f δ n (fun x n1 => match x with | .int i => q (.int (-i)) n1 | _ => False) e
theorem dp_neg {a : Expr} {pos : Pos} {f : DTE} (ha : PE X a (liftE M W f)) : PE X (.UnaryOp .USub a pos) (liftE M W (dNeg f)) :=
  PEw (pe_un un_neg ha) fun σ H Q ⟨pn, G, n, δ, q, e, R, hf, hQ, hX⟩ => by
    refine ⟨pn, G, n, δ, _, e, R, hf, fun G1 v d n1 H1 A1 R1 i1 h1 => ?_, hX⟩
    cases d with
    | int i =>
      simp only [Is] at i1
      exact ⟨i, i1, hQ G1 _ (.int (-i)) n1 H1 A1 R1 (by simp only [Is]) h1⟩
    | _ => exact h1.elim
/-! ### order -/
def gOrd (gi : Int → Int → Bool) (gs : List Nat → List Nat → Bool) : GR2 := fun x y n q => match x, y with
  | .int i, .int j => q (.bl (gi i j)) n
  | .str a, .str b => q (.bl (gs a b)) n
  | _, _ => False
def rOrd (gi : Int → Int → Bool) (gs : List Nat → List Nat → Bool) : R2 := fun x y H Q => (∃ i j, x = V.int i ∧ y = V.int j ∧ Q (.bl (gi i j)) H) ∨ (∃ i j, x = V.str i ∧ y = V.str j ∧ Q (.bl (gs i.cps.toList j.cps.toList)) H)
theorem dr_ord {gi : Int → Int → Bool} {gs : List Nat → List Nat → Bool} : DR2 M (rOrd gi gs) (gOrd gi gs) := by
  intro pn G n σ δ H v u x y q Q R ix iy h k
  unfold gOrd at h
  split at h
  · rename_i i j
    simp only [Is] at ix iy
    exact .inl ⟨i, j, ix, iy, k G _ (.bl (gi i j)) n H Adv.refl R (by simp only [Is]) h⟩
  · rename_i a b
    simp only [Is] at ix iy
    exact .inr ⟨S a, S b, ix, iy, k G _ (.bl (gs a b)) n H Adv.refl R (by simp only [Is, S_cps]) h⟩
  · exact h.elim
abbrev gLt : GR2 := gOrd (fun i j => decide (i < j)) (fun a b => decide (a < b))
abbrev gLe : GR2 := gOrd (fun i j => decide (i ≤ j)) (fun a b => !decide (b < a))
abbrev gGt : GR2 := gOrd (fun i j => decide (j < i)) (fun a b => decide (b < a))
abbrev gGe : GR2 := gOrd (fun i j => decide (j ≤ i)) (fun a b => !decide (a < b))
theorem op_ltX : OpR X (compareOp .Lt) (rOrd (fun i j => decide (i < j)) (fun a b => decide (a < b))) := OpR.or op_lt op_lt_str
theorem op_leX : OpR X (compareOp .LtE) (rOrd (fun i j => decide (i ≤ j)) (fun a b => !decide (b < a))) := OpR.or op_le op_le_str
theorem op_gtX : OpR X (compareOp .Gt) (rOrd (fun i j => decide (j < i)) (fun a b => decide (b < a))) := OpR.or op_gt op_gt_str
theorem op_geX : OpR X (compareOp .GtE) (rOrd (fun i j => decide (j ≤ i)) (fun a b => !decide (a < b))) := OpR.or op_ge op_ge_str
end
end DL

set_option Elab.async false
set_option linter.all false
set_option maxRecDepth 100000
set_option maxHeartbeats 4000000
set_option autoImplicit false
namespace DL
open PySem PySem.Spec PyProof.Rows L2
section
variable {X : Cx} {M : LK} {W : WX}
/-! ### == -/
mutual
def py : D → Option PyData
  | .non => some .none
  | .bl b => some (.bool b)
  | .int i => some (.int i)
  | .str l => some (.str (S l))
  | .lst xs => (pyL xs).map .list
  | .tup xs => (pyL xs).map .tuple
  | _ => none
def pyL : List D → Option (List PyData)
  | [] => some []
  | d :: ds => match py d, pyL ds with | some a, some b => some (a :: b) | _, _ => none
end
mutual
theorem py_dp {G H : Hp} (hx : Ext G H) : ∀ (d : D) (v : V) (x : PyData), Is M G v d → py d = some x → Dp M.L.K H v x
  | .non, v, x, h, e => by simp only [Is] at h; simp only [py, Option.some.injEq] at e; subst h e; exact .non
  | .bl b, v, x, h, e => by simp only [Is] at h; simp only [py, Option.some.injEq] at e; subst h e; exact .bl b
  | .int i, v, x, h, e => by simp only [Is] at h; simp only [py, Option.some.injEq] at e; subst h e; exact .int i
  | .str l, v, x, h, e => by simp only [Is] at h; simp only [py, Option.some.injEq] at e; subst h e; exact .str _
  | .lst xs, v, x, h, e => by
    simp only [Is] at h
    obtain ⟨p, vs, rfl, h1, h2⟩ := h
    simp only [py, Option.map_eq_some_iff] at e
    obtain ⟨ys, e1, rfl⟩ := e
    exact .lst (SqL.of (hx _ _ h1)) (py_dpL hx xs vs ys h2 e1)
  | .tup xs, v, x, h, e => by
    simp only [Is] at h
    obtain ⟨p, vs, rfl, h1, h2⟩ := h
    simp only [py, Option.map_eq_some_iff] at e
    obtain ⟨ys, e1, rfl⟩ := e
    exact .tup (hx.seqT h1) (py_dpL hx xs vs ys h2 e1)
  | .ty _, _, _, _, e => by simp [py] at e
  | .ref _, _, _, _, e => by simp [py] at e
  | .pen, _, _, _, e => by simp [py] at e
  | .ins _ _ _, _, _, _, e => by simp [py] at e
  | .own _, _, _, _, e => by simp [py] at e
theorem py_dpL {G H : Hp} (hx : Ext G H) : ∀ (ds : List D) (vs : List V) (xs : List PyData), IsL M G vs ds → pyL ds = some xs → DpAll M.L.K H vs xs
  | [], [], xs, _, e => by simp only [pyL, Option.some.injEq] at e; subst e; exact .nil
  | d :: ds, v :: vs, xs, h, e => by
    simp only [IsL] at h
    simp only [pyL] at e
    cases e1 : py d with
    | none => rw [e1] at e; cases e
    | some a =>
      cases e2 : pyL ds with
      | none => rw [e1, e2] at e; cases e
      | some b =>
        rw [e1, e2] at e
        cases e
        exact .cons (py_dp hx d v a h.1 e1) (py_dpL hx ds vs b h.2 e2)
  | [], _ :: _, _, h, _ => by simp only [IsL] at h
  | _ :: _, [], _, h, _ => by simp only [IsL] at h
end
/-- == of scalars -/
def scEq : D → D → Option Bool
  | .non, .non => some true | .non, .int _ => some false | .int _, .non => some false | .non, .bl _ => some false | .bl _, .non => some false | .non, .str _ => some false | .str _, .non => some false
  | .int a, .int b => some (decide (a = b)) | .bl a, .bl b => some (decide (a = b)) | .str a, .str b => some (decide (a = b))
  | .int _, .str _ => some false | .str _, .int _ => some false | .bl _, .str _ => some false | .str _, .bl _ => some false
  | _, _ => none
theorem scEq_ok {G : Hp} {v u : V} {x y : D} {b : Bool} (h : scEq x y = some b) (ix : Is M G v x) (iy : Is M G u y) : scal v u = true ∧ decide (v = u) = b := by
  cases x <;> cases y <;> simp only [scEq, Option.some.injEq, reduceCtorEq] at h <;> simp only [Is] at ix iy <;> subst ix iy h <;> refine ⟨rfl, ?_⟩ <;> simp
def eqD (x y : D) (k : Bool → Prop) : Prop := match scEq x y with
  | some b => k b
  | none => ∃ a b, py x = some a ∧ py y = some b ∧ SeqAt.shaped a = true ∧ SeqAt.shaped b = true ∧ k (PyData.eqv a b)
def gEq : GR2 := fun x y n q => eqD x y fun b => q (.bl b) n
def gNe : GR2 := fun x y n q => eqD x y fun b => q (.bl (!b)) n
theorem dr_eq : DR2 M (fun x y H Q => rEq x y H Q ∨ rEqD M.L.K x y H Q) gEq := by
  intro pn G n σ δ H v u x y q Q R ix iy h k
  unfold gEq eqD at h
  cases e : scEq x y with
  | some b =>
    rw [e] at h
    obtain ⟨h1, h2⟩ := scEq_ok e ix iy
    exact .inl ⟨h1, k G _ (.bl b) n H Adv.refl R (by simp only [Is]; rw [h2]) h⟩
  | none =>
    rw [e] at h
    obtain ⟨a, b, e1, e2, s1, s2, h⟩ := h
    exact .inr ⟨a, b, py_dp R.ex x v a ix e1, py_dp R.ex y u b iy e2, s1, s2, k G _ (.bl (PyData.eqv a b)) n H Adv.refl R (by simp only [Is]) h⟩
theorem dr_ne : DR2 M (fun x y H Q => rNe x y H Q ∨ rNeD M.L.K x y H Q) gNe := by
  intro pn G n σ δ H v u x y q Q R ix iy h k
  unfold gNe eqD at h
  cases e : scEq x y with
  | some b =>
    rw [e] at h
    obtain ⟨h1, h2⟩ := scEq_ok e ix iy
    exact .inl ⟨h1, k G _ (.bl (!b)) n H Adv.refl R (by simp only [Is]; rw [h2]) h⟩
  | none =>
    rw [e] at h
    obtain ⟨a, b, e1, e2, s1, s2, h⟩ := h
    exact .inr ⟨a, b, py_dp R.ex x v a ix e1, py_dp R.ex y u b iy e2, s1, s2, k G _ (.bl (!PyData.eqv a b)) n H Adv.refl R (by simp only [Is]) h⟩
theorem op_eqX (hK : X.K = M.L.K) (hu : X.A.units + 64 < cLine) : OpR X (compareOp .Eq) (fun x y H Q => rEq x y H Q ∨ rEqD M.L.K x y H Q) := hK ▸ OpR.or op_eq (op_eqD hu)
theorem op_neX (hK : X.K = M.L.K) (hu : X.A.units + 64 < cLine) : OpR X (compareOp .NotEq) (fun x y H Q => rNe x y H Q ∨ rNeD M.L.K x y H Q) := hK ▸ OpR.or op_ne (op_neD hu)
end
end DL

set_option Elab.async false
set_option linter.all false
set_option maxRecDepth 100000
set_option maxHeartbeats 4000000
set_option autoImplicit false
namespace DL
open PySem PySem.Spec PyProof.Rows L2
section
variable {X : Cx} {M : LK} {W : WX}
/-! ### in, is None -/
def flatD : D → Bool
  | .non => true | .bl _ => true | .int _ => true | .str _ => true | _ => false
/-- a flat value -/
def dV : D → V
  | .bl b => .bl b | .int i => .int i | .str l => .str (S l) | _ => .non
theorem dV_ok {G : Hp} {v : V} {d : D} (h : Is M G v d) (hf : flatD d = true) : v = dV d ∧ flatV v = true := by
  cases d <;> simp only [flatD, reduceCtorEq] at hf <;> simp only [Is] at h <;> subst h <;> exact ⟨rfl, rfl⟩
theorem dV_all {G : Hp} : ∀ {ds : List D} {vs : List V}, IsL M G vs ds → ds.all flatD = true → vs = ds.map dV ∧ vs.all flatV = true
  | [], [], _, _ => ⟨rfl, rfl⟩
  | d :: ds, v :: vs, h, hf => by
    simp only [IsL] at h
    rw [List.all_cons, Bool.and_eq_true] at hf
    obtain ⟨e1, e2⟩ := dV_ok h.1 hf.1
    obtain ⟨e3, e4⟩ := dV_all h.2 hf.2
    exact ⟨by rw [e1, e3]; rfl, by rw [List.all_cons, e2, e4]; rfl⟩
  | [], _ :: _, h, _ => by simp only [IsL] at h
  | _ :: _, [], h, _ => by simp only [IsL] at h
/-- y is x, flat ones -/
def eqF (y x : D) : Bool := eqV (dV y) (dV x)
def inD (x y : D) (k : Bool → Prop) : Prop := match x, y with
  | .str [c], .str l => k (decide (c ∈ l))
  | x, .lst ys => flatD x = true ∧ ys.all flatD = true ∧ k (ys.any fun y => eqF y x)
  | x, .tup ys => flatD x = true ∧ ys.all flatD = true ∧ k (ys.any fun y => eqF y x)
  | _, _ => False
def gIn : GR2 := fun x y n q => inD x y fun b => q (.bl b) n
def gNotIn : GR2 := fun x y n q => inD x y fun b => q (.bl (!b)) n
theorem inV_any {x : D} {ys : List D} : inV (dV x) (ys.map dV) = ys.any fun y => eqF y x := by unfold inV eqF; rw [List.any_map]; rfl
theorem dr_in {neg : Bool} : DR2 M (fun x y H Q => (∃ (c : Nat) (z : Str), x = .str ⟨#[c]⟩ ∧ y = .str z ∧ Q (.bl (if neg then !decide (c ∈ z.cps.toList) else decide (c ∈ z.cps.toList))) H) ∨ rIn M.L.K neg x y H Q) (fun x y n q => inD x y fun b => q (.bl (if neg then !b else b)) n) := by
  intro pn G n σ δ H v u x y q Q R ix iy h k
  unfold inD at h
  split at h
  · rename_i c l
    simp only [Is] at ix iy
    exact .inl ⟨c, S l, ix, iy, k G _ (.bl (if neg then !decide (c ∈ l) else decide (c ∈ l))) n H Adv.refl R (by simp only [Is, S_cps]) h⟩
  · rename_i ys _
    obtain ⟨f1, f2, h⟩ := h
    simp only [Is] at iy
    obtain ⟨p, vs, rfl, h1, h2⟩ := iy
    obtain ⟨e1, e2⟩ := dV_ok ix f1
    obtain ⟨e3, e4⟩ := dV_all h2 f2
    refine .inr ⟨p, vs, rfl, .inl (SqL.of (R.ex _ _ h1)), e2, e4, ?_⟩
    rw [e1, e3, inV_any]
    exact k G _ _ n H Adv.refl R (by simp only [Is]) h
  · rename_i ys _
    obtain ⟨f1, f2, h⟩ := h
    simp only [Is] at iy
    obtain ⟨p, vs, rfl, h1, h2⟩ := iy
    obtain ⟨e1, e2⟩ := dV_ok ix f1
    obtain ⟨e3, e4⟩ := dV_all h2 f2
    refine .inr ⟨p, vs, rfl, .inr (R.ex.seqT h1), e2, e4, ?_⟩
    rw [e1, e3, inV_any]
    exact k G _ _ n H Adv.refl R (by simp only [Is]) h
  · exact h.elim
theorem op_inX (hK : X.K = M.L.K) : OpR X (compareOp .In) (fun x y H Q => (∃ (c : Nat) (z : Str), x = .str ⟨#[c]⟩ ∧ y = .str z ∧ Q (.bl (if false then !decide (c ∈ z.cps.toList) else decide (c ∈ z.cps.toList))) H) ∨ rIn M.L.K false x y H Q) := hK ▸ OpR.or op_in_sign op_in_seq
theorem op_notInX (hK : X.K = M.L.K) : OpR X (compareOp .NotIn) (fun x y H Q => (∃ (c : Nat) (z : Str), x = .str ⟨#[c]⟩ ∧ y = .str z ∧ Q (.bl (if true then !decide (c ∈ z.cps.toList) else decide (c ∈ z.cps.toList))) H) ∨ rIn M.L.K true x y H Q) := hK ▸ OpR.or op_notIn_sign op_notIn_seq
theorem dr_inX : DR2 M (fun x y H Q => (∃ (c : Nat) (z : Str), x = .str ⟨#[c]⟩ ∧ y = .str z ∧ Q (.bl (if false then !decide (c ∈ z.cps.toList) else decide (c ∈ z.cps.toList))) H) ∨ rIn M.L.K false x y H Q) gIn := dr_in
theorem dr_notInX : DR2 M (fun x y H Q => (∃ (c : Nat) (z : Str), x = .str ⟨#[c]⟩ ∧ y = .str z ∧ Q (.bl (if true then !decide (c ∈ z.cps.toList) else decide (c ∈ z.cps.toList))) H) ∨ rIn M.L.K true x y H Q) gNotIn := dr_in
def isNon : D → Bool | .non => true | _ => false
theorem isNon_ok {G : Hp} {v : V} {d : D} (h : Is M G v d) : decide (v = .non) = isNon d := by
  cases d <;> simp only [Is] at h <;> first | (subst h; rfl) | (obtain ⟨rfl, _⟩ := h; rfl) | (obtain ⟨_, _, rfl, _⟩ := h; rfl) | (obtain ⟨_, _, _, rfl, _⟩ := h; rfl) | exact h.elim
def gIsN : GR2 := fun x y n q => y = .non ∧ q (.bl (isNon x)) n
def gNotN : GR2 := fun x y n q => y = .non ∧ q (.bl (!isNon x)) n
theorem dr_isN : DR2 M (fun x y H Q => y = .non ∧ Q (.bl (decide (x = .non))) H) gIsN := by
  intro pn G n σ δ H v u x y q Q R ix iy h k
  obtain ⟨rfl, h⟩ := h
  simp only [Is] at iy
  exact ⟨iy, k G _ (.bl (isNon x)) n H Adv.refl R (by simp only [Is, isNon_ok ix]) h⟩
theorem dr_notN : DR2 M (fun x y H Q => y = .non ∧ Q (.bl (!decide (x = .non))) H) gNotN := by
  intro pn G n σ δ H v u x y q Q R ix iy h k
  obtain ⟨rfl, h⟩ := h
  simp only [Is] at iy
  exact ⟨iy, k G _ (.bl (!isNon x)) n H Adv.refl R (by simp only [Is, isNon_ok ix]) h⟩
end
end DL

set_option Elab.async false
set_option linter.all false
set_option maxRecDepth 100000
set_option maxHeartbeats 4000000
set_option autoImplicit false
namespace DL
open PySem PySem.Spec PyProof.Rows L2
section
variable {X : Cx} {M : LK} {W : WX}
/-! ### subscripts -/
def gIx : GR2 := fun x y n q => match x, y with
  | .lst xs, .int i => ∃ d, atI xs i = some d ∧ q d n
  | .tup xs, .int i => ∃ d, atI xs i = some d ∧ q d n
  | .str l, .int i => l.length ≤ 100000 ∧ ∃ c, atI l i = some c ∧ q (.str [c]) n
  | _, _ => False
theorem IsL.atI {G : Hp} {ds : List D} {vs : List V} {i : Int} {d : D} (h : IsL M G vs ds) (e : atI ds i = some d) : ∃ v, L2.atI vs i = some v ∧ Is M G v d := by
  unfold L2.atI at e ⊢
  rw [h.length]
  cases e1 : ixN ds.length i with
  | none => rw [e1] at e; cases e
  | some j =>
    rw [e1] at e
    exact IsL.get h e
theorem dr_ix : DR2 M (rIx M.L.K) gIx := by
  intro pn G n σ δ H v u x y q Q R ix iy h k
  unfold gIx at h
  split at h
  · rename_i xs i
    obtain ⟨d, e, h⟩ := h
    simp only [Is] at ix iy
    obtain ⟨p, vs, rfl, h1, h2⟩ := ix
    obtain ⟨w, e1, i1⟩ := h2.atI e
    exact .inl ⟨p, vs, i, w, rfl, iy, SqL.of (R.ex _ _ h1), e1, k G w d n H Adv.refl R i1 h⟩
  · rename_i xs i
    obtain ⟨d, e, h⟩ := h
    simp only [Is] at ix iy
    obtain ⟨p, vs, rfl, h1, h2⟩ := ix
    obtain ⟨w, e1, i1⟩ := h2.atI e
    exact .inr (.inl ⟨p, vs, i, w, rfl, iy, R.ex.seqT h1, e1, k G w d n H Adv.refl R i1 h⟩)
  · rename_i l i
    obtain ⟨hl, c, e, h⟩ := h
    simp only [Is] at ix iy
    exact .inr (.inr ⟨S l, i, c, ix, iy, by rw [S_len]; exact le_line hl, by rw [S_cps]; exact e, k G _ (.str [c]) n H Adv.refl R (by simp only [Is]) h⟩)
  · exact h.elim
theorem dp_ix {a b : Expr} {pos : Pos} {fa fb : DTE} (hK : X.K = M.L.K) (ha : PE X a (liftE M W fa)) (hb : PE X b (liftE M W fb)) (hs : PlainIx b := by exact fun _ _ => rfl) : PE X (.Subscript a b pos) (liftE M W (dOp gIx fa fb)) :=
  PEw (pe_ix (r := rIx M.L.K) (hK ▸ ix_seq) ha hb hs) (liftE_bin dr_ix)
/-! ### slices -/
abbrev DTO := DEnv → Nat → (Option Int → Nat → Prop) → DX → Prop
def liftO (M : LK) (W : WX) (f : DTO) : TO := fun σ H Q => ∃ pn G n δ q e, Rep M pn G n σ δ H ∧ f δ n q e ∧ (∀ G' b n' H', Adv pn G H G' H' → Rep M pn G' n' σ δ H' → q b n' → Q b H') ∧ XEnd M W pn G σ δ H e
theorem POw {X : Cx} {e : Option Expr} {t t' : TO} (h : PO X e t) (w : ∀ σ H Q, t' σ H Q → t σ H Q) : PO X e t' := ⟨fun pins s σ H Q I q => h.run pins s σ H Q I (w _ _ _ q)⟩
def dNoPart : DTO := fun _ n q _ => q none n
def dPart (f : DTE) : DTO := fun δ n q e => f δ n (fun x n1 => match x with | .int i => q (some i) n1 | _ => False) e
theorem do_none : PO X none (liftO M W dNoPart) := POw po_none fun σ H Q ⟨pn, G, n, δ, q, e, R, hf, hQ, hX⟩ => hQ G none n H Adv.refl R hf
theorem do_some {a : Expr} {f : DTE} (h : PE X a (liftE M W f)) : PO X (some a) (liftO M W (dPart f)) := POw (po_some h) fun σ H Q ⟨pn, G, n, δ, q, e, R, hf, hQ, hX⟩ => by
  refine ⟨pn, G, n, δ, _, e, R, hf, fun G1 v d n1 H1 A1 R1 i1 h1 => ?_, hX⟩
  cases d with
  | int i =>
    simp only [Is] at i1
    exact ⟨i, i1, hQ G1 _ n1 H1 A1 R1 h1⟩
  | _ => exact h1.elim
def cutL {α : Type} (xs : List α) (lo hi : Option Int) : List α := (xs.drop (HT.sIx xs.length 0 lo)).take (HT.sIx xs.length xs.length hi - HT.sIx xs.length 0 lo)
def dSl (f : DTE) (lo hi : DTO) : DTE := fun δ n q e => f δ n (fun x n1 => lo δ n1 (fun i n2 => hi δ n2 (fun j n3 => match x with
  | .lst xs => q (.lst (cutL xs i j)) n3
  | .tup xs => q (.tup (cutL xs i j)) n3
  | .str l => l.length ≤ 100000 ∧ q (.str (cutL l i j)) n3
  | _ => False) e) e) e
def rSlX (K : Frag) : V → Option Int → Option Int → Hp → VK → Prop := fun x lo hi H Q => (rSlL K x lo hi H Q ∨ rSlA K x lo hi H Q) ∨ rSlS x lo hi H Q
theorem sl_X (hK : X.K = M.L.K) : SlR X (rSlX M.L.K) := hK ▸ SlR.or (SlR.or sl_list sl_tupA) sl_str
theorem cutL_id {α : Type} {xs : List α} {lo hi : Option Int} (h : HT.sIx xs.length 0 lo = 0 ∧ HT.sIx xs.length xs.length hi = xs.length) : cutL xs lo hi = xs := by
  unfold cutL
  rw [h.1, h.2, List.drop_zero, Nat.sub_zero, List.take_length]
theorem IsL.cut {G : Hp} {ds : List D} {vs : List V} {lo hi : Option Int} (h : IsL M G vs ds) : IsL M G (cutV vs lo hi) (cutL ds lo hi) := by
  unfold cutV cutL
  rw [h.length]
  exact IsL.take _ (IsL.drop _ h)
theorem dp_slice {a : Expr} {lo hi : Option Expr} {p2 pos : Pos} {f : DTE} {fl fh : DTO} (h : PE X (.Subscript a (.Slice lo hi none p2) pos) (tSl (rSlX M.L.K) (liftE M W f) (liftO M W fl) (liftO M W fh))) : PE X (.Subscript a (.Slice lo hi none p2) pos) (liftE M W (dSl f fl fh)) :=
  PEw h fun σ H Q ⟨pn, G, n, δ, q, e, R, hf, hQ, hX⟩ => by
    refine ⟨pn, G, n, δ, _, e, R, hf, fun G1 v d n1 H1 A1 R1 i1 h1 => ?_, hX⟩
    refine ⟨pn, G1, n1, δ, _, e, R1, h1, fun G2 i n2 H2 A2 R2 h2 => ?_, hX.on R A1⟩
    have A12 := R.tr A1 A2
    refine ⟨pn, G2, n2, δ, _, e, R2, h2, fun G3 j n3 H3 A3 R3 h3 => ?_, hX.on R A12⟩
    have A13 := R.tr A12 A3
    have i3 := Is.up (A2.ge.trans A3.ge) d v i1
    cases d with
    | lst xs =>
      simp only [Is] at i3
      obtain ⟨p, vs, rfl, e1, e2⟩ := i3
      refine .inl (.inl ⟨p, vs, rfl, SqL.of (R3.ex _ _ e1), fun l hl => ?_⟩)
      obtain ⟨R4, A4⟩ := R3.lay (o := .lst (cutV vs i j)) hl notTbl_lst
      exact hQ _ _ (.lst (cutL xs i j)) n3 _ (R.tr A13 A4) R4 (by simp only [Is]; exact ⟨l, _, rfl, upd_same, IsL.up A4.ge _ _ e2.cut⟩) h3
    | tup xs =>
      have i3' := i3
      simp only [Is] at i3
      obtain ⟨p, vs, rfl, e1, e2⟩ := i3
      refine .inl (.inr ⟨p, vs, rfl, R3.ex.seqT e1, fun hz => ?_, fun _ l hl => ?_⟩)
      · rw [e2.length] at hz
        have h3' : q (.tup (cutL xs i j)) n3 := h3
        rw [cutL_id hz] at h3'
        exact hQ _ _ (.tup xs) n3 _ A13 R3 i3' h3'
      · obtain ⟨R4, A4⟩ := R3.lay (o := .tup (cutV vs i j)) hl notTbl_tup
        exact hQ _ _ (.tup (cutL xs i j)) n3 _ (R.tr A13 A4) R4 (by simp only [Is]; exact ⟨l, _, rfl, SqT.of upd_same, IsL.up A4.ge _ _ e2.cut⟩) h3
    | str l =>
      simp only [Is] at i3
      refine .inr ⟨S l, i3, by rw [S_len]; exact le_line h3.1, hQ _ _ (.str (cutL l i j)) n3 _ A13 R3 ?_ h3.2⟩
      simp only [Is]
      unfold cutS cutL
      rw [S_cps, S_len]
    | _ => exact h3.elim
end
end DL

set_option Elab.async false
set_option linter.all false
set_option maxRecDepth 100000
set_option maxHeartbeats 4000000
set_option autoImplicit false
/-! The data layer: calls of built-ins, methods of texts. -/
namespace DL
open PySem PySem.Spec PyProof.Rows L2
section
variable {X : Cx} {M : LK} {W : WX}
abbrev GC := List D → Nat → (D → Nat → Prop) → Prop
theorem dp_bfn {x : Str} {p pos : Pos} {e : Expr} {es : List Expr} {id : String} {r : List V → Hp → VK → Prop} {g : GC} {f : DTA} (hc : CallR X (.builtin id) r) (hr : DRC M r g) (hg : Gl X x) (hm : X.mg x = none) (hv : bootBuiltins x = some (.builtin id)) (ha : PA X (e :: es) (liftA M W f)) (hn : x ≠ "__name__" := by decide) (hdb : (x == ("__debug__" : Str)) = false := by decide)
    (he : starEach (e :: es) X.env = (false, eval e X.env) :: starEach es X.env := by exact starEach_cons rfl) (hpl : (backTo pos (starEach es X.env)).any (·.1) = false := by rfl) : PE X (.Call (.Name x p) (e :: es) [] pos) (liftE M W (dCB g f)) :=
  dp_cb (pe_callB hc hg hm hv ha hn hdb he hpl) hr
theorem dp_bty {x : Str} {p pos : Pos} {e : Expr} {es : List Expr} {T : String} {r : List V → Hp → VK → Prop} {g : GC} {f : DTA} (hc : CallR X (.type T) r) (hr : DRC M r g) (hg : Gl X x) (hm : X.mg x = none) (hv : bootBuiltins x = some (.type T)) (ha : PA X (e :: es) (liftA M W f)) (hn : x ≠ "__name__" := by decide) (hdb : (x == ("__debug__" : Str)) = false := by decide)
    (he : starEach (e :: es) X.env = (false, eval e X.env) :: starEach es X.env := by exact starEach_cons rfl) (hpl : (backTo pos (starEach es X.env)).any (·.1) = false := by rfl) : PE X (.Call (.Name x p) (e :: es) [] pos) (liftE M W (dCB g f)) :=
  dp_cb (pe_callTy hc hg hm hv ha hn hdb he hpl) hr
/-- the name of a built-in type -/
theorem dp_ty {x : Str} {pos : Pos} {T : String} (hg : Gl X x) (hm : X.mg x = none) (hv : bootBuiltins x = some (.type T)) (hn : x ≠ "__name__" := by decide) (hd : (x == ("__debug__" : Str)) = false := by decide) : PE X (.Name x pos) (liftE M W (dC (.ty T))) :=
  dp_c (pe_bltn (v := .ty T) hg hm hv rfl hn hd) fun _ => by simp only [Is]
/-- the name of an own class -/
theorem dp_cls {x : Str} {pos : Pos} {C : Addr} (hg : Gl X x) (hm : X.mg x = some (.ref C)) (hd : (x == ("__debug__" : Str)) = false := by decide) : PE X (.Name x pos) (liftE M W (dC (.ref C))) :=
  dp_c (pe_glob (v := .ref C) hg hm rfl hd) fun _ => by simp only [Is]
theorem IsL.one {G : Hp} {vs : List V} {d : D} (h : IsL M G vs [d]) : ∃ v, vs = [v] ∧ Is M G v d := by
  match vs, h with
  | [v], h => simp only [IsL] at h; exact ⟨v, rfl, h.1⟩
  | [], h => simp only [IsL] at h
  | _ :: _ :: _, h => simp only [IsL, and_false] at h
theorem IsL.two {G : Hp} {vs : List V} {d d' : D} (h : IsL M G vs [d, d']) : ∃ v v', vs = [v, v'] ∧ Is M G v d ∧ Is M G v' d' := by
  match vs, h with
  | [v, v'], h => simp only [IsL] at h; exact ⟨v, v', rfl, h.1, h.2.1⟩
  | [], h => simp only [IsL] at h
  | [_], h => simp only [IsL, and_false] at h
  | _ :: _ :: _ :: _, h => simp only [IsL, and_false] at h
/-! ### len -/
def gLen : GC := fun xs n q => match xs with
  | [.str l] => l.length ≤ 100000 ∧ q (.int (l.length : Nat)) n
  | [.lst ys] => q (.int (ys.length : Nat)) n
  | [.tup ys] => q (.int (ys.length : Nat)) n
  | _ => False
theorem drc_len (hK : X.K = M.L.K) : DRC M (fun xs H Q => ∃ x n, xs = [x] ∧ LenV X.K x H n ∧ Q (.int (n : Nat)) H) gLen := by
  intro pn G n σ δ H vs xs q Q R iv h k
  unfold gLen at h
  split at h
  · rename_i l
    obtain ⟨v, rfl, iw⟩ := iv.one; clear iv; rename Is M G v _ => iv
    have iv' := iv
    simp only [Is] at iv'
    subst iv'
    exact ⟨_, l.length, rfl, ⟨by rw [S_len]; exact le_line h.1, by rw [S_len]⟩, k G _ _ n H Adv.refl R (by simp only [Is]) h.2⟩
  · rename_i ys
    obtain ⟨v, rfl, iw⟩ := iv.one; clear iv; rename Is M G v _ => iv
    simp only [Is] at iv
    obtain ⟨p, us, rfl, h1, h2⟩ := iv
    exact ⟨_, ys.length, rfl, .inl ⟨us, SqL.of (R.ex _ _ h1), h2.length.symm⟩, k G _ _ n H Adv.refl R (by simp only [Is]) h⟩
  · rename_i ys
    obtain ⟨v, rfl, iw⟩ := iv.one; clear iv; rename Is M G v _ => iv
    simp only [Is] at iv
    obtain ⟨p, us, rfl, h1, h2⟩ := iv
    exact ⟨_, ys.length, rfl, .inr ⟨us, by rw [hK]; exact R.ex.seqT h1, h2.length.symm⟩, k G _ _ n H Adv.refl R (by simp only [Is]) h⟩
  · exact h.elim
/-! ### int -/
def gInt : GC := fun xs n q => match xs with
  | [.int i] => q (.int i) n
  | [.bl b] => q (.int (if b then 1 else 0)) n
  | _ => False
theorem drc_int : DRC M (fun xs H Q => (∃ i, xs = [.int i] ∧ Q (.int i) H) ∨ ∃ k : Bool, xs = [.bl k] ∧ Q (.int (if k then 1 else 0)) H) gInt := by
  intro pn G n σ δ H vs xs q Q R iv h k
  unfold gInt at h
  split at h
  · rename_i i
    obtain ⟨v, rfl, iw⟩ := iv.one; clear iv; rename Is M G v _ => iv
    simp only [Is] at iv
    subst iv
    exact .inl ⟨_, rfl, k G _ _ n H Adv.refl R (by simp only [Is]) h⟩
  · rename_i b
    obtain ⟨v, rfl, iw⟩ := iv.one; clear iv; rename Is M G v _ => iv
    simp only [Is] at iv
    subst iv
    exact .inr ⟨_, rfl, k G _ _ n H Adv.refl R (by simp only [Is]) h⟩
  · exact h.elim
/-! ### abs, max, min -/
def gAbs : GC := fun xs n q => match xs with | [.int i] => q (.int (if i < 0 then -i else i)) n | _ => False
theorem drc_abs : DRC M (fun xs H Q => ∃ i : Int, xs = [.int i] ∧ Q (.int (if i < 0 then -i else i)) H) gAbs := by
  intro pn G n σ δ H vs xs q Q R iv h k
  unfold gAbs at h
  split at h
  · rename_i i
    obtain ⟨v, rfl, iw⟩ := iv.one; clear iv; rename Is M G v _ => iv
    simp only [Is] at iv
    subst iv
    exact ⟨_, rfl, k G _ _ n H Adv.refl R (by simp only [Is]) h⟩
  · exact h.elim
def gMax : GC := fun xs n q => match xs with | [.int i, .int j] => q (.int (if j > i then j else i)) n | _ => False
def gMin : GC := fun xs n q => match xs with | [.int i, .int j] => q (.int (if j < i then j else i)) n | _ => False
theorem drc_max : DRC M (fun xs H Q => ∃ i j : Int, xs = [.int i, .int j] ∧ Q (.int (if j > i then j else i)) H) gMax := by
  intro pn G n σ δ H vs xs q Q R iv h k
  unfold gMax at h
  split at h
  · rename_i i j
    obtain ⟨v, v', rfl, iw, iw'⟩ := iv.two; clear iv; rename Is M G v _ => iv; rename Is M G v' _ => iv'
    simp only [Is] at iv iv'
    subst iv; subst iv'
    exact ⟨_, _, rfl, k G _ _ n H Adv.refl R (by simp only [Is]) h⟩
  · exact h.elim
theorem drc_min : DRC M (fun xs H Q => ∃ i j : Int, xs = [.int i, .int j] ∧ Q (.int (if j < i then j else i)) H) gMin := by
  intro pn G n σ δ H vs xs q Q R iv h k
  unfold gMin at h
  split at h
  · rename_i i j
    obtain ⟨v, v', rfl, iw, iw'⟩ := iv.two; clear iv; rename Is M G v _ => iv; rename Is M G v' _ => iv'
    simp only [Is] at iv iv'
    subst iv; subst iv'
    exact ⟨_, _, rfl, k G _ _ n H Adv.refl R (by simp only [Is]) h⟩
  · exact h.elim
/-! ### list -/
def gList : GC := fun xs n q => match xs with
  | [.lst ys] => q (.lst ys) n
  | [.tup ys] => q (.lst ys) n
  | [.str l] => l.length ≤ 100000 ∧ q (.lst (l.map fun c => .str [c])) n
  | _ => False
theorem IsL.signs {G : Hp} : ∀ (l : List Nat), IsL M G (l.map fun c => V.str ⟨#[c]⟩) (l.map fun c => .str [c])
  | [] => by simp only [List.map_nil, IsL]
  | c :: l => by
    simp only [List.map_cons, IsL]
    exact ⟨by simp only [Is], IsL.signs l⟩
theorem cl_list (hc : X.calm = true) : CallR X (.type "list") (fun xs H Q => (∃ p ys, xs = [.ref p] ∧ (SqL X.K H p ys ∨ SqT X.K H p ys) ∧ ∀ l, H l = none → Q (.ref l) (upd H l (.lst ys))) ∨ ∃ z : Str, xs = [.str z] ∧ z.length ≤ sizeLine ∧ ∀ l, H l = none → Q (.ref l) (upd H l (.lst (z.cps.toList.map fun c => V.str ⟨#[c]⟩)))) := CallR.or call_list_of (call_list_str hc)
theorem drc_list (hK : X.K = M.L.K) : DRC M (fun xs H Q => (∃ p ys, xs = [.ref p] ∧ (SqL X.K H p ys ∨ SqT X.K H p ys) ∧ ∀ l, H l = none → Q (.ref l) (upd H l (.lst ys))) ∨ ∃ z : Str, xs = [.str z] ∧ z.length ≤ sizeLine ∧ ∀ l, H l = none → Q (.ref l) (upd H l (.lst (z.cps.toList.map fun c => V.str ⟨#[c]⟩)))) gList := by
  intro pn G n σ δ H vs xs q Q R iv h k
  unfold gList at h
  split at h
  · rename_i ys
    obtain ⟨v, rfl, iw⟩ := iv.one; clear iv; rename Is M G v _ => iv
    simp only [Is] at iv
    obtain ⟨p, us, rfl, h1, h2⟩ := iv
    refine .inl ⟨p, us, rfl, .inl (SqL.of (R.ex _ _ h1)), fun l hl => ?_⟩
    obtain ⟨R2, A2⟩ := R.lay (o := .lst us) hl notTbl_lst
    exact k _ _ _ n _ A2 R2 (by simp only [Is]; exact ⟨l, us, rfl, upd_same, IsL.up A2.ge _ _ h2⟩) h
  · rename_i ys
    obtain ⟨v, rfl, iw⟩ := iv.one; clear iv; rename Is M G v _ => iv
    simp only [Is] at iv
    obtain ⟨p, us, rfl, h1, h2⟩ := iv
    refine .inl ⟨p, us, rfl, .inr (by rw [hK]; exact R.ex.seqT h1), fun l hl => ?_⟩
    obtain ⟨R2, A2⟩ := R.lay (o := .lst us) hl notTbl_lst
    exact k _ _ _ n _ A2 R2 (by simp only [Is]; exact ⟨l, us, rfl, upd_same, IsL.up A2.ge _ _ h2⟩) h
  · rename_i l0
    obtain ⟨v, rfl, iw⟩ := iv.one; clear iv; rename Is M G v _ => iv
    simp only [Is] at iv
    subst iv
    refine .inr ⟨S l0, rfl, by rw [S_len]; exact le_line h.1, fun l hl => ?_⟩
    rw [S_cps]
    obtain ⟨R2, A2⟩ := R.lay (o := .lst (l0.map fun c => V.str ⟨#[c]⟩)) hl notTbl_lst
    exact k _ _ _ n _ A2 R2 (by simp only [Is]; exact ⟨l, _, rfl, upd_same, IsL.signs l0⟩) h.2
  · exact h.elim
/-! ### all, any -/
def blsD : List D → Option (List Bool)
  | [] => some []
  | .bl b :: r => (blsD r).map (b :: ·)
  | _ :: _ => none
theorem blsD_ok {G : Hp} : ∀ {ds : List D} {vs : List V} {bs : List Bool}, IsL M G vs ds → blsD ds = some bs → vs = bs.map V.bl
  | [], [], bs, _, e => by simp only [blsD] at e; cases e; rfl
  | .bl b :: r, v :: vs, bs, h, e => by
    simp only [blsD] at e
    simp only [IsL, Is] at h
    cases e1 : blsD r with
    | none => rw [e1] at e; cases e
    | some bs' =>
      rw [e1] at e
      cases e
      rw [h.1, blsD_ok h.2 e1]
      rfl
  | [], _ :: _, _, h, _ => by simp only [IsL] at h
  | _ :: _, [], _, h, _ => by simp only [IsL] at h
theorem blsD_map (l : List Bool) : blsD (l.map D.bl) = some l := by
  induction l with
  | nil => rfl
  | cons b l ih => simp [blsD, ih]
def gAll : GC := fun xs n q => match xs with | [.lst ys] => (match blsD ys with | some bs => q (.bl (bs.all id)) n | none => False) | _ => False
def gAny : GC := fun xs n q => match xs with | [.lst ys] => (match blsD ys with | some bs => q (.bl (bs.any id)) n | none => False) | _ => False
theorem drc_all (hK : X.K = M.L.K) : DRC M (rAll X.K) gAll := by
  intro pn G n σ δ H vs xs q Q R iv h k
  unfold gAll at h
  split at h
  · rename_i ys
    obtain ⟨v, rfl, iw⟩ := iv.one; clear iv; rename Is M G v _ => iv
    simp only [Is] at iv
    obtain ⟨p, us, rfl, h1, h2⟩ := iv
    cases e : blsD ys with
    | none => rw [e] at h; exact h.elim
    | some bs =>
      rw [e] at h
      refine ⟨p, bs, rfl, SqL.of ?_, k G _ _ n H Adv.refl R (by simp only [Is]) h⟩
      rw [← blsD_ok h2 e]
      exact R.ex _ _ h1
  · exact h.elim
theorem drc_any (hK : X.K = M.L.K) : DRC M (rAny X.K) gAny := by
  intro pn G n σ δ H vs xs q Q R iv h k
  unfold gAny at h
  split at h
  · rename_i ys
    obtain ⟨v, rfl, iw⟩ := iv.one; clear iv; rename Is M G v _ => iv
    simp only [Is] at iv
    obtain ⟨p, us, rfl, h1, h2⟩ := iv
    cases e : blsD ys with
    | none => rw [e] at h; exact h.elim
    | some bs =>
      rw [e] at h
      refine ⟨p, bs, rfl, SqL.of ?_, k G _ _ n H Adv.refl R (by simp only [Is]) h⟩
      rw [← blsD_ok h2 e]
      exact R.ex _ _ h1
  · exact h.elim
/-! ### isinstance -/
/-- the type of a tree of built-in values -/
def kindD : D → Option String
  | .non => some "NoneType"
  | .bl _ => some "bool"
  | .int _ => some "int"
  | .str _ => some "str"
  | .lst _ => some "list"
  | .tup _ => some "tuple"
  | _ => none
/-- what an own class must have for isinstance of its instances -/
structure InsC (K : PySem.W.Frag) (C : Addr) : Prop where
  cl : Cls K C
  ha : PySem.W.findIn K (.ref C) "__class__" = some (some (.builtin "object.__class__"))
  hn : PySem.W.specialIn K (.builtin "object.__class__") "__get__" = some (some (.builtin "getset_descriptor.__get__"))
  htk : PySem.W.takesIn K (.builtin "object.__class__") = some true
  hm : PySem.W.mroIn K C (.type "object") = some true
def tyD (K : PySem.W.Frag) (x : D) (t : Value) : Prop := (∃ s, kindD x = some s ∧ t = .type s) ∨ ∃ C ns ys, x = .ins C ns ys ∧ t = .ref C ∧ InsC K C
def clsD : D → Option Value
  | .ty s => some (.type s)
  | .ref C => some (.ref C)
  | _ => none
/-- isinstance(x, c) -/
def isiD (K : PySem.W.Frag) (x c : D) (k : Bool → Prop) : Prop := match kindD x, c with
  | some s, .ty t => (match kitB s t with | some b => k b | none => False)
  | _, _ => ∃ t u b, tyD K x t ∧ clsD c = some u ∧ PySem.W.kitOne K t u = some b ∧ k b
theorem tyD_ok {G H : Hp} (hx : Ext G H) {v : V} {x : D} {t : Value} (h : tyD M.L.K x t) (iv : Is M G v x) : TyX M.L.K H v t := by
  rcases h with ⟨s, h, rfl⟩ | ⟨C, ns, ys, rfl, rfl, I⟩
  · cases x <;> simp only [kindD] at h <;> cases h
    · simp only [Is] at iv; subst iv; exact .base .non
    · simp only [Is] at iv; subst iv; exact .base (.bl _)
    · simp only [Is] at iv; subst iv; exact .base (.int _)
    · simp only [Is] at iv; subst iv; exact .base (.str _)
    · simp only [Is] at iv
      obtain ⟨p, us, rfl, h1, h2⟩ := iv
      exact .base (.lst (hx _ _ h1))
    · simp only [Is] at iv
      obtain ⟨p, us, rfl, h1, h2⟩ := iv
      rcases hx.seqT h1 with (h1 | ⟨o, h1⟩) | ⟨o, its, n, h1, h3, _⟩
      · exact .base (.tup h1)
      · exact .fTuple h1
      · exact .kTuple h1 h3
  · simp only [Is] at iv
    obtain ⟨p, dx, fs, rfl, h1, h2, h3⟩ := iv
    exact .base (.ins (hx _ _ h1) I.cl I.ha I.hn I.htk I.hm)
theorem clsD_ok {G : Hp} {v : V} {c : D} {u : Value} (h : clsD c = some u) (iv : Is M G v c) : ClsV v u := by
  cases c <;> simp only [clsD] at h <;> cases h
  · simp only [Is] at iv; subst iv; exact .ty _
  · simp only [Is] at iv; subst iv; exact .own _
theorem isiD_ok {x c : D} {k : Bool → Prop} (h : isiD M.L.K x c k) : ∃ t u b, tyD M.L.K x t ∧ clsD c = some u ∧ PySem.W.kitOne M.L.K t u = some b ∧ k b := by
  unfold isiD at h
  split at h
  · rename_i s t e
    cases e1 : kitB s t with
    | none => rw [e1] at h; exact h.elim
    | some b =>
      rw [e1] at h
      exact ⟨.type s, .type t, b, .inl ⟨s, e, rfl⟩, rfl, kit_ty e1, h⟩
  · exact h
def gIsi (K : PySem.W.Frag) : GC := fun xs n q => match xs with | [x, c] => isiD K x c fun b => q (.bl b) n | _ => False
theorem drc_isi (hK : X.K = M.L.K) : DRC M (rIsi X.K) (gIsi M.L.K) := by
  intro pn G n σ δ H vs xs q Q R iv h k
  unfold gIsi at h
  split at h
  · rename_i x c
    obtain ⟨v, v', rfl, iw, iw'⟩ := iv.two; clear iv; rename Is M G v _ => iv; rename Is M G v' _ => iv'
    obtain ⟨t, u, b, ht, hu, hb, h⟩ := isiD_ok h
    exact ⟨v, v', t, u, b, rfl, clsD_ok hu iv', by rw [hK]; exact tyD_ok R.ex ht iv, by rw [hK]; exact hb, k G _ _ n H Adv.refl R (by simp only [Is]) h⟩
  · exact h.elim
theorem kit_int_int : kitB "int" "int" = some true := by decide +kernel
theorem kit_int_bool : kitB "int" "bool" = some false := by decide +kernel
theorem kit_int_str : kitB "int" "str" = some false := by decide +kernel
theorem kit_int_list : kitB "int" "list" = some false := by decide +kernel
theorem kit_int_tuple : kitB "int" "tuple" = some false := by decide +kernel
theorem kit_bool_int : kitB "bool" "int" = some true := by decide +kernel
theorem kit_bool_bool : kitB "bool" "bool" = some true := by decide +kernel
theorem kit_bool_str : kitB "bool" "str" = some false := by decide +kernel
theorem kit_bool_list : kitB "bool" "list" = some false := by decide +kernel
theorem kit_bool_tuple : kitB "bool" "tuple" = some false := by decide +kernel
theorem kit_str_int : kitB "str" "int" = some false := by decide +kernel
theorem kit_str_bool : kitB "str" "bool" = some false := by decide +kernel
theorem kit_str_str : kitB "str" "str" = some true := by decide +kernel
theorem kit_str_list : kitB "str" "list" = some false := by decide +kernel
theorem kit_str_tuple : kitB "str" "tuple" = some false := by decide +kernel
theorem kit_non_int : kitB "NoneType" "int" = some false := by decide +kernel
theorem kit_non_bool : kitB "NoneType" "bool" = some false := by decide +kernel
theorem kit_non_str : kitB "NoneType" "str" = some false := by decide +kernel
theorem kit_non_list : kitB "NoneType" "list" = some false := by decide +kernel
theorem kit_non_tuple : kitB "NoneType" "tuple" = some false := by decide +kernel
theorem kit_list_int : kitB "list" "int" = some false := by decide +kernel
theorem kit_list_bool : kitB "list" "bool" = some false := by decide +kernel
theorem kit_list_str : kitB "list" "str" = some false := by decide +kernel
theorem kit_list_list : kitB "list" "list" = some true := by decide +kernel
theorem kit_list_tuple : kitB "list" "tuple" = some false := by decide +kernel
theorem kit_tuple_int : kitB "tuple" "int" = some false := by decide +kernel
theorem kit_tuple_bool : kitB "tuple" "bool" = some false := by decide +kernel
theorem kit_tuple_str : kitB "tuple" "str" = some false := by decide +kernel
theorem kit_tuple_list : kitB "tuple" "list" = some false := by decide +kernel
theorem kit_tuple_tuple : kitB "tuple" "tuple" = some true := by decide +kernel
/-! ### methods of texts -/
abbrev GM := D → List D → Nat → (D → Nat → Prop) → Prop
def gUpper : GM := fun x xs n q => match x, xs with | .str l, [] => l.length ≤ 100000 ∧ l.all (· < 128) = true ∧ q (.str (l.map up1)) n | _, _ => False
def gLower : GM := fun x xs n q => match x, xs with | .str l, [] => l.length ≤ 100000 ∧ l.all (· < 128) = true ∧ q (.str (l.map lo1)) n | _, _ => False
theorem drm_upper : DRM M (fun x xs H Q => ∃ a, x = .str a ∧ xs = [] ∧ a.length ≤ 5592405 ∧ Q (.str (Txt.upper a)) H) gUpper := by
  intro pn G n σ δ H v vs x xs q Q R iv ivs h k
  unfold gUpper at h
  split at h
  · rename_i l
    simp only [Is] at iv
    have e := ivs.length
    have e2 : vs = [] := List.eq_nil_of_length_eq_zero e
    subst e2
    exact ⟨S l, iv, rfl, by rw [S_len]; exact Nat.le_trans h.1 (by decide), k G _ _ n H Adv.refl R (by simp only [Is]; rw [show Txt.upper (S l) = S (l.map up1) from SX.upper_S h.2.1]) h.2.2⟩
  · exact h.elim
theorem drm_lower : DRM M (fun x xs H Q => ∃ a, x = .str a ∧ xs = [] ∧ a.length ≤ 5592405 ∧ Q (.str (Txt.lower a)) H) gLower := by
  intro pn G n σ δ H v vs x xs q Q R iv ivs h k
  unfold gLower at h
  split at h
  · rename_i l
    simp only [Is] at iv
    have e := ivs.length
    have e2 : vs = [] := List.eq_nil_of_length_eq_zero e
    subst e2
    exact ⟨S l, iv, rfl, by rw [S_len]; exact Nat.le_trans h.1 (by decide), k G _ _ n H Adv.refl R (by simp only [Is]; rw [show Txt.lower (S l) = S (l.map lo1) from SX.lower_S h.2.1]) h.2.2⟩
  · exact h.elim
/-- text.index(text), found -/
def gIndex : GM := fun x xs n q => match x, xs with
  | .str a, [.str b] => ∃ i rest, Builtin.Str.occurrences (S a) (S b) 0 (S a).length 1 = i :: rest ∧ q (.int (i : Nat)) n
  | _, _ => False
theorem drm_index : DRM M (fun x xs H Q => ∃ a b i rest, x = .str a ∧ xs = [.str b] ∧ Builtin.Str.occurrences a b 0 a.length 1 = i :: rest ∧ Q (.int (i : Nat)) H) gIndex := by
  intro pn G n σ δ H v vs x xs q Q R iv ivs h k
  unfold gIndex at h
  split at h
  · rename_i a b
    simp only [Is] at iv
    obtain ⟨u, rfl, iu⟩ := ivs.one
    simp only [Is] at iu
    obtain ⟨i, rest, e, h⟩ := h
    exact ⟨S a, S b, i, rest, iv, by rw [iu], e, k G _ _ n H Adv.refl R (by simp only [Is]) h⟩
  · exact h.elim
theorem pe_index {o e : Expr} {to te : TE} {apos pos : Pos} (ho : PE X o to) (he : PE X e te) (hs : starEach [e] X.env = [(false, eval e X.env)] := by rfl) (hbase : attributeBase o "index" X.env (eval o X.env) = eval o X.env := by rfl) (hline : (apos.endLine == pos.line) = true := by rfl) :
    PE X (.Call (.Attribute o "index" apos) [e] [] pos) (tM1 (fun x xs H Q => ∃ a b i rest, x = .str a ∧ xs = [.str b] ∧ Builtin.Str.occurrences a b 0 a.length 1 = i :: rest ∧ Q (.int (i : Nat)) H) to te) :=
  pe_m1 F.slot_str_index F.type_str_index mt_sindex ho he hs hbase hline
end
end DL

set_option Elab.async false
set_option linter.all false
set_option maxRecDepth 100000
set_option maxHeartbeats 2000000
set_option autoImplicit false
/-! An own error of one field whose __init__ says super().__init__(f), above ValueError by way of other own classes: made, raised. -/
namespace PySem
namespace EX
open PySem.W PySem.Calls PyProof.Rows PySem.HandSPX
/-! ### the text of __init__ -/
def iA (f : Str) (p1 p2 : Pos) : Arguments := { posonlyargs := [], args := [{ arg := "self", annotation := none, pos := p1 }, { arg := f, annotation := none, pos := p2 }], vararg := none, kwonlyargs := [], kw_defaults := [], kwarg := none, defaults := [] }
def iB (f : Str) (a1 a2 a3 a4 a5 a6 b1 b2 b3 b4 : Pos) : List Stmt :=
  [.Expr (.Call (.Attribute (.Call (.Name "super" a1) [] [] a2) "__init__" a3) [.Name f a4] [] a5) a6, .Assign [.Attribute (.Name "self" b1) f b2] (.Name f b3) b4]
def iS (f : Str) : Scope := { kind := .function, names := [(PySem.Str.ofString "self", .local), (f, .local), (PySem.Str.ofString "__class__", .free), (PySem.Str.ofString "super", .globalImplicit)], isGenerator := false, isCoroutine := false, more := [] }
/-- what the written part says of the class x, at C, of its field f, and of its __init__, at fI -/
structure ErrTxt (P : Program) (K : Frag) (mg : Str → Option Value) (x f : Str) (C fI : Addr) : Prop where
  gC : mg x = some (.ref C)
  cls : ∃ nm q N bs bm sn sub ab col dd k0 k1 k2 k3 k5, K.lookup C = some (excClassObj nm q C N bs bm true sn sub ab col dd k0 k1 k2 k3 k5 "ValueError.__new__") ∧ refsVE bm = true
  sa : findIn K (.ref C) "__setattr__" = some (some (.builtin "object.__setattr__"))
  ga : findIn K (.ref C) "__getattribute__" = some (some (.builtin "BaseException.__getattribute__"))
  gg : findIn K (.ref C) "__getattr__" = some none
  noN : findIn K (.ref C) f = some none
  iC : findIn K (.ref C) "__init__" = some (some (.ref fI))
  tC : typeIn K (.ref fI) = some (.type "function")
  kC : keepIn K (.ref C) = true
  exC : subIn K (.ref C) (.type "BaseException") = some true
  veC : subIn K (.ref C) (.type "ValueError") = some true
  tyC : typeIn K (.ref C) = some (.type "type")
  hdC : hasDictIn K C = true
  sup : ks_superIn K C C "__init__" = some (some (.builtin "ValueError.__init__"))
  slf : mroIn K C (.ref C) = some true
  opq : nsIn K cStatics "thirdparty.any" = some none
  gS : mg "super" = none
  htop : (P.main.scope.names.lookup ("super" : Str)).isSome = false
  fself : (f == ("self" : Str)) = false
  fdb : (f == ("__debug__" : Str)) = false
  ks : (iS f).names.lookup ("super" : Str) = some .globalImplicit
  kc : (iS f).names.lookup ("__class__" : Str) = some .free
  fn : ∃ (oc : Value) (od : Option Addr) (doc pm : Value) (an : Option Addr) (cda cc : Addr) (ct : Value) (osl : Array (Option Value)) (qual : Str) (p1 p2 a1 a2 a3 a4 a5 a6 b1 b2 b3 b4 : Pos) (ccl : Value) (cdd : Option Addr) (vs : Array Value) (ccs : Array (Option Value)) (file : Str) (tf : Tok)
      (cl : Value) (cld : Option Addr) (csl : Array (Option Value)),
    K.lookup fI = some ⟨oc, od, .func (ksFn "__init__" qual (iA f p1 p2) (iB f a1 a2 a3 a4 a5 a6 b1 b2 b3 b4) (iS f) .none .none doc pm an (.ref cda) ct cc), osl⟩ ∧ codeIn K (.ref cda) qual = true ∧
    K.lookup cda = some ⟨ccl, cdd, .fields vs, ccs⟩ ∧ vs[2]? = some (.str file tf) ∧ ((P.main.file : Str) == file) = true ∧ K.lookup cc = some ⟨cl, cld, .cell (some (.ref C)), csl⟩ ∧
    (∀ (a b : Value), bindArgs (ksFn "__init__" qual (iA f p1 p2) (iB f a1 a2 a3 a4 a5 a6 b1 b2 b3 b4) (iS f) .none .none doc pm an (.ref cda) ct cc) ⟨[a, b], []⟩ = pure [(("self" : Str), a), (f, b)]) ∧
    (∀ env : Env, env.scope = iS f → ∃ pl, eval (.Call (.Attribute (.Call (.Name "super" a1) [] [] a2) "__init__" a3) [.Name f a4] [] a5) env = (do
      let ov ← attributeBase (.Call (.Name "super" a1) [] [] a2) "__init__" env (eval (.Call (.Name "super" a1) [] [] a2) env)
      standAt a3.atName
      let (g, first) ← holding [ov] (getMethod ov "__init__" pl)
      callWith a5 g first (backTo a5 (starEach [.Name f a4] env)) []))
theorem one_size (v : Value) : [v].length ≤ sizeLine := by
  rw [sizeLine_eq]
  exact (by decide : 1 ≤ 16777216)
theorem ldC {M : Model} {s : Shared} {env : Env} {m : Str → Option Value} {x : Str} {pos : Pos} {v : Value} {Q : Value → Shared → Prop} {A : Around} {E : Value → Shared → Prop} (hn : s.heap.Ns env.locals m) (hv : m x = some v) (h : Q v s)
    (hk : env.scope.kind = .function) (hl : env.kindOf x = some .local) (hd : (x == ("__debug__" : Str)) = false) : wpAny M A (eval (.Name x pos) env) Q E s := wpAny_Name (wpAny_loadName_local hk hl hn hv h) hd
/-- what __init__ leaves of a fresh exception at x -/
structure InitEnd (h h' : Heap) (x C dx t1 : Addr) (f : Str) (v : Value) : Prop where
  keep : ∀ b o, b ≠ x → h.get? b = some o → h'.get? b = some o
  obj : h'.get? x = some { cls := .ref C, dict := some dx, data := .fields #[.ref t1, .none, .none, .none, .bool false, .none] }
  dbig : h.objs.size ≤ dx
  dne : dx ≠ x
  ns : h'.Ns1 dx (fun y => if y = f then some v else none)
/-- a made one -/
structure OwnMade (h h' : Heap) (e C d : Addr) (f : Str) (v : Value) : Prop where
  keep : ∀ b o, h.get? b = some o → h'.get? b = some o
  new : h.objs.size ≤ e
  obj : ∃ oe vs, h'.get? e = some oe ∧ oe.cls = .ref C ∧ oe.dict = some d ∧ oe.data = .fields vs ∧ vs[1]? = some .none
  dbig : h.objs.size ≤ d
  dne : d ≠ e
  ns : h'.Ns1 d (fun y => if y = f then some v else none)
section
variable {prog : Program} {w : World} {A : Around} {E : Value → Shared → Prop} {s : Shared}
/-- ValueError.__init__ bound to the exception at x, called -/
theorem call_mw {K : Frag} {nm q : Str} {C N u x t0 : Addr} {bs bm : List Value} {sn : List Str} {sub : List Value} {ab : Bool} {col : Option Bool} {dd : Option Addr} {k0 k1 k2 k3 k5 : Option Value} {rest : List Value} {Q : Value → Shared → Prop}
    (hC : s.heap.get? C = some (excClassObj nm q C N bs bm true sn sub ab col dd k0 k1 k2 k3 k5 "ValueError.__new__")) (hx : s.heap.get? x = some (excO C t0)) (hu : s.heap.get? u = some (kxs_mw "ValueError.__init__" x)) (hz : rest.length ≤ sizeLine)
    (h : ∀ h', (∀ b o, b ≠ x → s.heap.get? b = some o → h'.get? b = some o) → h'.get? x = some (excO C s.heap.objs.size) → Q .none { s with heap := h' }) :
    wpAny (model prog w) A (call (.ref u) rest) Q E s := by
  obtain ⟨hh, g, d, tk, os⟩ := s
  refine wpAny_call (codeAny_of_tree ?_)
  show wpAny _ A.in1 (callAny (.ref u) ⟨rest, []⟩) _ _ _
  simp only [callAny]
  refine wpAny_bind (wpAny_load hu ?_)
  simp only [kxs_mw, show (Value.type "method-wrapper" == Value.type "method" || Value.type "method-wrapper" == Value.type "builtin_function_or_method" || Value.type "method-wrapper" == Value.type "method-wrapper") = true by decide, if_true]
  refine W.KFB.if_so (by decide) ?_
  refine wpAny_bind (check_bound_init F.excBase_ValueError.toExcCallFacts hC hx rfl ?_)
  refine wpAny_bind (wpAny_pure (wpAny_pure ?_))
  refine ⟨plainId_quiet F.excBase_ValueError.init.plain _, codeAny_builtin F.excBase_ValueError.initEntry ?_⟩
  exact exc_init_tree (cls := .ref C) (t0 := t0) (dv := none) (c2 := .none) (c3 := .none) (b4 := .bool false) hx hz fun h' k e' _ => h h' k e'
end
section
variable {prog : Program} {w : World} {A : Around} {E : Value → Shared → Prop} {R : Result → Shared → Prop} {s : Shared} {K : Frag} {mg : Str → Option Value} {f x : Str} {C fI : Addr} {base : Heap}
theorem err_init (T : ErrTxt prog K mg x f C fI) (Md : L2.Mod K mg base) (bk : ∀ b o, base.get? b = some o → s.heap.get? b = some o) {x t0 : Addr} {v : Value} (X : K.In s.heap) (hlim : s.heap.NoLimit) (hx : s.heap.get? x = some (excO C t0)) (hnx : K.lookup x = none) (hroom : A.depth < recursionLimit)
    (hq : ∀ h' tk dx t1, InitEnd s.heap h' x C dx t1 f v → R (.ok (.ret .none)) { s with heap := h', toks := tk }) :
    codeAny (model prog w) A (.call (.ref fI) ⟨[.ref x, v], []⟩) R s := by
  obtain ⟨oc, od, doc, pm, an, cda, cc, ct, osl, qual, p1, p2, a1, a2, a3, a4, a5, a6, b1, b2, b3, b4, ccl, cdd, vs, ccs, file, tf, cl, cld, csl, ho, hcd, hcode, hvs, hfile, hcell, hbnd, hev⟩ := T.fn
  obtain ⟨nm, q, N, bs, bm, sn, sub, ab, col, dd, k0, k1, k2, k3, k5, hC, hbm⟩ := T.cls
  have hcl : clsIn K C = some { name := nm, bases := bs, mro := .ref C :: bm, ns := N, qualname := q, hasDict := true, slotNames := sn, subclasses := sub, abstract := ab, collection := col, hasDel := false } := by unfold clsIn; rw [hC] <;> rfl
  have fs := T.fself
  have sf : (("self" : Str) == f) = false := by
    cases e : (("self" : Str) == f) with
    | false => rfl
    | true =>
      rw [eq_of_beq e] at fs
      simp at fs
  have kself : (iS f).names.lookup ("self" : Str) = some .local := rfl
  have kf : (iS f).names.lookup f = some .local := by
    show List.lookup f [(PySem.Str.ofString "self", NameKind.local), (f, NameKind.local), (PySem.Str.ofString "__class__", NameKind.free), (PySem.Str.ofString "super", NameKind.globalImplicit)] = _
    have : (f == PySem.Str.ofString "self") = false := fs
    simp [List.lookup, this]
  have mself : (([(("self" : Str), .ref x), (f, v)] : List (Str × Value)).reverse.lookup ("self" : Str)) = some (.ref x) := by
    simp [List.lookup, sf]
  have mf : (([(("self" : Str), .ref x), (f, v)] : List (Str × Value)).reverse.lookup f) = some v := by
    simp [List.lookup]
  refine ks_codeAny_call_defAt (fd := ksFn "__init__" qual (iA f p1 p2) (iB f a1 a2 a3 a4 a5 a6 b1 b2 b3 b4) (iS f) .none .none doc pm an (.ref cda) ct cc) (binds := [(("self" : Str), .ref x), (f, v)]) hroom (X _ _ ho) rfl hlim (codeRec_of X hcd) rfl (BindsTo.of_eq (hbnd _ _)) ?hcell ?hloc (fun h₁ hns hk₁ => ?_) rfl rfl rfl
  case hcell =>
    intro y hy
    simp only [iS, List.mem_cons, List.not_mem_nil, or_false] at hy
    rcases hy with rfl | rfl | rfl | rfl <;> exact fun z => nomatch z
  case hloc =>
    intro y hy
    simp only [List.mem_cons, List.not_mem_nil, or_false] at hy
    rcases hy with rfl | rfl
    · exact kself
    · exact kf
  have hxL : s.heap.objs.size ≠ x := Nat.ne_of_gt (Heap.lt_size hx)
  have X₁ : K.In h₁ := X.keeps hk₁
  have hx₁ := hk₁ _ _ hx
  have I₁ : InstAt h₁ x (excO C t0) C none := ⟨hx₁, rfl, rfl, trivial⟩
  obtain ⟨mb, hb1, hb2⟩ := Md.blt
  have bk₁ : ∀ b o, base.get? b = some o → h₁.get? b = some o := fun b o e => hk₁ b o (bk b o e)
  obtain ⟨oD, hD1, hD2⟩ : ∃ oD, h₁.get? C = some oD ∧ ∃ cd, oD.data = .cls cd := ⟨_, X₁ _ _ hC, _, rfl⟩
  obtain ⟨cdD, hD2⟩ := hD2
  obtain ⟨pl, hev⟩ := hev (callEnv (ksFn "__init__" qual (iA f p1 p2) (iB f a1 a2 a3 a4 a5 a6 b1 b2 b3 b4) (iS f) .none .none doc pm an (.ref cda) ct cc) s.heap.objs.size fI) rfl
  refine ks_wpAt_execs_cons (ks_wpAt_Expr_any (ks_wpAt_MethodCall (pl := pl) ?_ hev))
  refine ks_wpAt_super_base (fd := ksFn "__init__" qual (iA f p1 p2) (iB f a1 a2 a3 a4 a5 a6 b1 b2 b3 b4) (iS f) .none .none doc pm an (.ref cda) ct cc) T.ks T.kc (by decide) rfl (X₁ _ _ ho) rfl (ar := { arg := "self", annotation := none, pos := p1 }) rfl (cc := cda) rfl (X₁ _ _ hcode) rfl hvs hfile T.htop ?_
  refine ks_loadName_global rfl T.ks (loadGlobal_builtin (Md.glob.keeps bk₁) T.gS (hb1.keeps bk₁) ((hb2 "super" (by decide)).trans (by decide +kernel : bootBuiltins "super" = some (.type "super"))) ⟨rfl, ?_⟩)
  refine wpAny_loadName_free rfl T.kc (c := cc) (v := .ref C) rfl ⟨_, X₁ _ _ hcell, rfl⟩ ?_
  refine wpAny_loadName_local rfl rfl hns mself ?_
  refine ks_wpAny_isType_cls hD1 hD2 ⟨rfl, ?_⟩
  refine ks_wpAny_call_super hD1 hD2 I₁.at_ I₁.cls (fun c e => nomatch e) (looks_mroIn X₁ T.slf) (fun h₂ hso hk₂ => ?_)
  have X₂ : K.In h₂ := X₁.keeps hk₂
  have hx₂ := hk₂ _ _ hx₁
  have I₂ : InstAt h₂ x (excO C t0) C none := ⟨hx₂, rfl, rfl, trivial⟩
  have hI : Looks (model prog w) h₂ (isInstance (.ref x) (.type "ValueError")) true := I₂.type.andThen (looks_subIn X₂ T.veC)
  have hs := T.sup
  unfold ks_superIn at hs
  rw [hcl] at hs
  refine kxs_getMethod kxs_ValueError hso (looks_opaque X₂ T.opq) (l₀ := .ref C :: bm) (fun A Q E s k q => wpAny_bind ((looks_clsIn X₂ hcl) A _ E s k (wpAny_pure q))) rfl X₂ hs hI (ks_ne X₂ I₂ hcl) (by decide) ?_
  have hk₃ : ∀ b o, h₂.get? b = some o → (h₂.push (kxs_mw "ValueError.__init__" x)).get? b = some o := fun b o e => Heap.get?_push_of_some _ e
  have hu : (h₂.push (kxs_mw "ValueError.__init__" x)).get? h₂.objs.size = some (kxs_mw "ValueError.__init__" x) := Heap.get?_push_at rfl rfl
  have hns₃ := (hns.keeps hk₂).keeps hk₃
  refine kxs_callWith (i := "ValueError.__init__") (x := x) rfl (evalArgs_plain (Calls.spliced_cons ?_))
  refine ldC (v := v) (hns₃) mf ?_ rfl kf T.fdb
  refine Calls.spliced_nil ⟨hu, ?_⟩
  refine call_mw (K := K) (hk₃ _ _ (X₂ _ _ hC)) (hk₃ _ _ hx₂) hu (one_size v) (fun h₄ hk₄ hx₄ => ?_)
  have hk14 : ∀ b o, b ≠ x → h₁.get? b = some o → h₄.get? b = some o := fun b o hb e => hk₄ b o hb (hk₃ _ _ (hk₂ _ _ e))
  have X₄ : K.In h₄ := fun a o e => hk14 a o (fun z => by rw [z, hnx] at e; cases e) (X₁ _ _ e)
  have hns₄ : h₄.Ns s.heap.objs.size (fun y => ([("self", .ref x), (f, v)] : List (Str × Value)).reverse.lookup y) := by
    obtain ⟨oL, es, ep, hL, r⟩ := hns
    exact ⟨oL, es, ep, hk14 _ _ hxL hL, r⟩
  show wpAt _ _ _ (execs _ _) _ _ _
  refine wpAt_of_wpAny (wpAny_execs_cons (plainObj_wpAny_Assign_Attribute ?_))
  refine ldC (v := v) hns₄ mf (ldC (v := .ref x) hns₄ mself ?_ rfl rfl (by decide)) rfl kf T.fdb
  refine set_plain X₄ (ox := _) (od := none) ⟨hx₄, rfl, rfl, trivial⟩ T.sa ?_
  refine exc_osa X₄ hx₄ hcl (show refsVE (.ref C :: bm) = true from hbm) rfl T.noN (fun h₅ tk₅ dx k₅ dn dne hx₅ hn₅ => ?_)
  show wpAny _ _ (execs _ _) _ _ _
  have z : s.heap.objs.size ≤ h₄.objs.size := by
    obtain ⟨oL, es, ep, hL, r⟩ := hns₄
    exact Nat.le_of_lt (Heap.lt_size hL)
  exact wpAny_execs_nil (hq h₅ tk₅ dx _ ⟨fun b o hb e => k₅ b o hb (hk14 b o hb (hk₁ b o e)), hx₅, Nat.le_trans z dn, dne, hn₅⟩)
theorem err_made (T : ErrTxt prog K mg x f C fI) (Md : L2.Mod K mg base) (bk : ∀ b o, base.get? b = some o → s.heap.get? b = some o) {v : Value} (X : K.In s.heap) (hlim : s.heap.NoLimit) (hroom : A.depth + 1 < recursionLimit)
    (hq : ∀ h' tk e d, OwnMade s.heap h' e C d f v → R (.ok (.ret (.ref e))) { s with heap := h', toks := tk }) :
    codeAny (model prog w) A (.call (.ref C) ⟨[v], []⟩) R s := by
  obtain ⟨nm, q, N, bs, bm, sn, sub, ab, col, dd, k0, k1, k2, k3, k5, hC, hbm⟩ := T.cls
  obtain ⟨hp, g, dr, tk, os⟩ := s
  have k : ∀ b o, hp.get? b = some o → ((hp.push (kdv_tup [v])).push (excO C hp.objs.size)).get? b = some o := fun b o e => Heap.get?_push_of_some _ (Heap.get?_push_of_some _ e)
  have hget : ((hp.push (kdv_tup [v])).push (excO C hp.objs.size)).get? (hp.objs.size + 1) = some (excO C hp.objs.size) := by heap_get
  have hnx : K.lookup (hp.objs.size + 1) = none := by
    cases e : K.lookup (hp.objs.size + 1) with
    | none => rfl
    | some o =>
      have z : hp.get? (hp.objs.size + 1) = some o := X _ _ e
      exact absurd (Nat.lt_of_succ_lt (Heap.lt_size z)) (Nat.lt_irrefl _)
  refine call_own F.excBase_ValueError (fun X => refsVE_contains X bm hbm) (X _ _ hC) (looks_findIn X T.iC) (fun self => bind_fn X self T.tC) (one_size v) ?_
  refine err_init (s := ⟨(hp.push (kdv_tup [v])).push (excO C hp.objs.size), g, dr, tk, os⟩) T Md (fun b o e => k b o (bk b o e)) (X.keeps k) (hlim.keeps k) hget hnx ?_ fun h' tk' dx t1 ⟨k', hx, dn, dne, hns⟩ => ?_
  · show A.depth + 1 < recursionLimit
    exact hroom
  · have old : ∀ b o, hp.get? b = some o → h'.get? b = some o := fun b o e => k' b o (Nat.ne_of_lt (Nat.lt_succ_of_lt (Heap.lt_size e))) (k b o e)
    have z : hp.objs.size + 1 + 1 ≤ dx := by
      first
        | (simpa only [Heap.size_push] using dn)
        | exact dn
        | (have q := dn; rw [Heap.size_push, Heap.size_push] at q; exact q)
    exact ⟨rfl, hq h' tk' (hp.objs.size + 1) dx ⟨old, Nat.le_succ _, ⟨_, _, hx, rfl, rfl, rfl, rfl⟩, Nat.le_trans (Nat.le_trans (Nat.le_succ _) (Nat.le_succ _)) z, dne, hns⟩⟩
end
end EX
end PySem
namespace L2
open PySem PySem.Spec PyProof.Rows
theorem relO_err {f : Str} {v : V} {v' : Value} (r : RelV v v') (g : Str) : RelO (List.lookup g [(f, v)]) (if g = f then some v' else none) := by
  by_cases hw : g = f
  · subst hw
    rw [if_pos rfl]
    have q : List.lookup g [(g, v)] = some v := by simp [List.lookup]
    rw [q]
    exact r
  · rw [if_neg hw]
    have qw : (g == f) = false := by simpa using hw
    have q2 : List.lookup g [(f, v)] = none := by simp [List.lookup, qw]
    rw [q2]
    trivial
section
variable {X : Cx} {C fI : Addr} {x f : Str}
/-- x(e) -/
def tMkErr (f : Str) (C : Addr) (ta : TA) : St → Hp → XK → Prop := fun σ H Q => ta σ H fun vs H1 => ∃ v, vs = [v] ∧ ∀ d, H1 d = none → Q (.ref C) (some d) (upd H1 d (.xd [(f, v)]))
theorem pmk_err {a : Expr} {ta : TA} {p pos : Pos} {k : Nat} (T : PySem.EX.ErrTxt X.prog X.K X.mg x f C fI) (hr : Room k X.A) (ha : PA X [a] ta) (hg : Gl X x) (hdb : (x == ("__debug__" : Str)) = false)
    (he : starEach (a :: []) X.env = (false, eval a X.env) :: starEach [] X.env := by rfl) (hpl : (backTo pos (starEach [] X.env)).any (·.1) = false := by rfl) :
    PMk X (.Call (.Name x p) [a] [] pos) (tMkErr f C ta) := by
  intro pins s σ H Q I h
  refine wpAny_Call_Name_kw (ld_glob I hg T.gC ?_ hdb)
  refine PySem.W.callWith_K (h₀ := X.base) I.ok.mod.kin T.kC (thn (ha.run pos pins s σ H _ I h) fun us s1 hh => ?_) he hpl
  obtain ⟨vs, H1, I1, r1, v, ev, q1⟩ := hh
  subst ev
  refine ⟨I1.kIn, ?_⟩
  cases r1 with
  | cons rv rn =>
    rename_i v' us'
    cases rn
    show wpAny _ _ (call (.ref C) [v']) _ _ _
    have hlim := I1.nolimit
    have bk1 := I1.bk
    obtain ⟨hp, g, dr, tk, os⟩ := s1
    refine wpAny_call (PySem.EX.err_made T I1.ok.mod bk1 I1.kIn hlim (by have := hr.dp; omega) fun h' tk' e d M => ?_)
    show MkP X pins σ Q (.ref e) ⟨h', g, dr, tk', os⟩
    obtain ⟨oe, fv, hoe, hc, hd, hdat, h1⟩ := M.obj
    have hns := M.ns
    obtain ⟨G', g1, g2⟩ := restrict h' fun b => decide (b ≠ e)
    have gk : ∀ b, b ≠ e → G'.get? b = h'.get? b := fun b hb => g1 b (decide_eq_true hb)
    have ge : G'.get? e = none := g2 e (by simp)
    have old : ∀ b o, hp.get? b = some o → G'.get? b = some o := fun b o q => (gk b (Nat.ne_of_lt (Nat.lt_of_lt_of_le (Heap.lt_size q) M.new))).trans (M.keep b o q)
    have ob : ObjOk X.prog X.w (upd H1 d (.xd [(f, v)])) G' d (.xd [(f, v)]) :=
      ⟨_, hns.at (fun o q => (gk d M.dne).trans q), fun f => relO_err rv f⟩
    have J : Inv X pins σ (upd H1 d (.xd [(f, v)])) ⟨G', g, dr, tk', os⟩ := I1.laid (t' := tk') old M.dbig ob
    refine ⟨e, oe, fv, ⟨G', g, dr, tk', os⟩, _, .ref C, some d, rfl, J, fun b o q => ?_, ge, hoe, ⟨hc, hd⟩, hdat, h1, ?_, rfl, I1.bare, raises_own T.exC T.tyC, q1 d (I1.hok.fresh M.dbig)⟩
    · by_cases hb : b = e
      · have q' : G'.get? b = some o := q
        rw [hb, ge] at q'; cases q'
      · exact (gk b hb).symm.trans q
    · rw [upd_ne (Ne.symm M.dne)]
      exact I1.hok.fresh M.new
/-- raise x(e) -/
def tRaiseErr (f : Str) (C : Addr) (W : WX) (ta : TA) : TS := fun _ σ H => tMkErr f C ta σ H fun cls d H' => W cls d σ H'
theorem ps_raiseErr {a : Expr} {ta : TA} {W : WX} {p pos pos2 : Pos} {k : Nat} (hc : X.calm = true) (T : PySem.EX.ErrTxt X.prog X.K X.mg x f C fI) (hr : Room k X.A) (tk : Takes X W) (ha : PA X [a] ta) (hg : Gl X x) (hdb : (x == ("__debug__" : Str)) = false)
    (he : starEach (a :: []) X.env = (false, eval a X.env) :: starEach [] X.env := by rfl) (hpl : (backTo pos (starEach [] X.env)).any (·.1) = false := by rfl) :
    PS X (.Raise (some (.Call (.Name x p) [a] [] pos)) none pos2) (tRaiseErr f C W ta) := ps_raise hc tk (pmk_err T hr ha hg hdb he hpl)
end
end L2
namespace DL
open PySem PySem.Spec PyProof.Rows L2
section
variable {X : Cx} {M : LK} {W : WX} {C fI : Addr} {x f : Str}
theorem notTbl_xd {fs : List (Str × V)} : notTbl (.xd fs) := fun ps z => by cases z
/-- raise x(e), x an own error of one field f -/
def dRaise (C : Addr) (f : Str) (fa : DTA) : DTS := fun k δ n => fa δ n (fun xs n1 => xs.length = 1 ∧ k.ex δ C [f] xs n1) k.ex
theorem ds_raise {st : Stmt} {fa : DTA} (h : PS X st (tRaiseErr f C W (liftA M W fa))) : PS X st (liftS M W (dRaise C f fa)) :=
  PSw h fun D₀ σ H ⟨pn, G, n, δ, k, R, hf, s⟩ => by
    refine ⟨pn, G, n, δ, _, k.ex, R, hf, fun G1 vs ds n1 H1 A1 R1 i1 h1 => ?_, s.xe⟩
    obtain ⟨hl, h1⟩ := h1
    match ds, hl with
    | [d], _ =>
      obtain ⟨v, rfl, iv⟩ := i1.one
      refine ⟨v, rfl, fun a ha => ?_⟩
      obtain ⟨R2, A2⟩ := R1.lay (o := .xd [(f, v)]) ha notTbl_xd
      exact s.ex _ σ δ C a [f] [d] n1 _ (R.tr A1 A2) R2 ⟨[(f, v)], upd_same, rfl, by simp only [List.map, IsL]; exact ⟨Is.up A2.ge d v iv, trivial⟩⟩ h1
end
end DL

set_option Elab.async false
set_option linter.all false
set_option maxRecDepth 100000
set_option maxHeartbeats 2000000
set_option autoImplicit false
/-! try: body / except X as e: suite / except Y as e: suite .. -/
namespace L2
open PySem PySem.Spec PyProof.Rows
abbrev HdL := List (Value × Nat × (Addr → Value → Option Addr → TS))
def offE (i : Nat) (D : Ends) : Ends := { nx := fun σ' H' => D.nx (σ'.set i none) H', rt := D.rt, bk := fun σ' H' => D.bk (σ'.set i none) H', ct := fun σ' H' => D.ct (σ'.set i none) H' }
/-- what the clauses wish of an exception of the body, one after the other -/
def wManyAs (K : PySem.W.Frag) (Wout : WX) (D : Ends) : HdL → WX
  | [] => Wout
  | (c, i, ts) :: r => fun cls d σ H => ∃ b, PySem.W.exmOne K cls c = some b ∧ (b = true → ∀ a, H a = none → ts a cls d (offE i D) (σ.set i (some (.ref a))) H) ∧ (b = false → wManyAs K Wout D r cls d σ H)
inductive HdsAs (X : Cx) : List ExceptHandler → HdL → Prop
  | nil : HdsAs X [] []
  | cons {x n : Str} {i : Nat} {c : Value} {ts : Addr → Value → Option Addr → TS} {b₀ : Stmt} {suite : List Stmt} {np pos' : Pos} {hds : List ExceptHandler} {l : HdL} (hi : X.N[i]? = some n) (hln : X.env.kindOf n = some .local) (hc : Names X x c)
      (hsu : ∀ (a : Addr) (oe : Obj) (cls : Value) (d : Option Addr) (pn : List (Addr × Obj)), Zc cls d oe → (∃ vs, oe.data = .fields vs) → PSs (X.suite a ((a, oe) :: pn)) (b₀ :: suite) (ts a cls d)) (r : HdsAs X hds l) :
      HdsAs X (.ExceptHandler (some (.Name x np)) (some n) (b₀ :: suite) pos' :: hds) ((c, i, ts) :: l)
section
variable {X : Cx} {body : List Stmt} {h₀ : ExceptHandler} {hds : List ExceptHandler} {l : HdL} {pos : Pos} {tb : WX → TS} {Wout : WX}
theorem ps_try_manyAs (hs : X.stack = X.env :: X.outer) (hf : X.env.frame = some X.env.locals) (hN : X.N.Nodup) (tk : Takes X Wout)
    (hb : ∀ (W : WX) (pn : List (Addr × Obj)) (xe : Value → Shared → Prop), Takes (X.tr pn xe) W → PassesOwn (model X.prog X.w) X.A X.env xe → PSs (X.tr pn xe) body (tb W))
    (hh : HdsAs X (h₀ :: hds) l) : PS X (.Try body (h₀ :: hds) [] [] pos) (fun D σ H => tb (wManyAs X.K Wout D l) D σ H) := by
  refine ⟨fun pins s σ H D I h => ?_⟩
  have ok := I.ok
  have hfr : X.A.frames = some (X.env :: X.outer) := by rw [ok.frames, hs]
  refine wpAny_Try_except ?_
  refine wpAny_mono ((hb (wManyAs X.K Wout D l) (X.pn ++ pins) (fun e s₁ => wpAny (model X.prog X.w) X.A (noteFrame e X.env) (fun _ s₂ => wpAny (model X.prog X.w) X.A (setFlight e none) (fun _ s₃ =>
    wpAny (model X.prog X.w) X.A (handleBy e X.env (h₀ :: hds)) (SP X pins D) X.xe s₃) X.xe s₂) X.xe s₁) (fun u s' xx => ?_) PassesOwn.looking).run [] s σ H D (I.toTry _) h) (fun f s1 hsp => ?_) (fun e s1 he => he)
  · -- the catch
    obtain ⟨a, B, sI, pins', σ', H', cls, d, rfl, J', nb, up, sky, na, os, ag, w⟩ := xx
    have J : Inv X pins σ' H' sI := J'.ofTry ok
    have sky' : Sky B (X.env :: X.outer) a (Zc cls d) X.env.locals s'.heap := by rw [← hs]; exact sky
    show wpAny (model X.prog X.w) X.A (noteFrame (.ref a) X.env) _ _ _
    refine Sky.land Zc.steady hfr hf sky' fun h3 fl3 up3 => ?_
    have J3 : Inv X pins σ' H' { s' with heap := h3 } := J.landed nb fl3.1 (up.trans up3) os ag
    obtain ⟨oe3, vs3, he3, hz3, hd3⟩ := fl3.there
    have notFr : ∀ {h : Heap} {o : Obj} {vs : Array Value}, h.FunFrames B (X.env :: X.outer) → h.get? a = some o → o.data = .fields vs → a ∉ frs (X.env :: X.outer) := fun {h o vs} ff e dd hm => by
      obtain ⟨_, o', e', hnf⟩ := ff.mem hm
      rw [e] at e'; cases e'
      exact hnf _ dd
    have nfr := notFr fl3.2.2.1 he3 hd3
    have nL : a ≠ X.env.locals := fun z => nfr (List.mem_filterMap.mpr ⟨X.env, List.mem_cons_self, by rw [hf, z]⟩)
    have nF : a ∉ X.fs := fun hm => by
      obtain ⟨e, he, q⟩ := List.mem_filterMap.mp hm
      exact nfr (List.mem_filterMap.mpr ⟨e, List.mem_cons_of_mem _ he, q⟩)
    have S3 := J3.suite he3 hd3 na nL nF
    have go : ∀ {hds' : List ExceptHandler} {l' : HdL}, HdsAs X hds' l' → wManyAs X.K Wout D l' cls d σ' H' →
        wpAny (model X.prog X.w) X.A (handleBy (.ref a) X.env hds') (SP X pins D) X.xe { s' with heap := h3 } := by
      intro hds' l' hk
      induction hk with
      | nil =>
        intro w
        refine wpAny_handleBy_nil ?_
        obtain ⟨k1, k2, k3, oe, vs, T, oT, ts', he, hz, hd, h1, hr⟩ := id fl3
        unfold PySem.passOn
        refine wpAny_bind (wpAny_field he hd h1 ?_)
        rw [if_neg (show ¬ ((Value.ref T == Value.none) = true) from by simp)]
        have fin : wpAny (model X.prog X.w) X.A (setFlight (.ref a) X.env.frame) (fun _ s4 => wpAny (model X.prog X.w) X.A (throw (.ref a) : Sem Flow) (SP X pins D) X.xe s4) X.xe { s' with heap := h3 } := by
          rw [hf]
          refine HandSPX.setFlight_upZ fl3 fun h4 hh4 up4 => wpAny_throw (tk _ _ ?_)
          exact ⟨a, B, sI, pins, σ', H', cls, d, rfl, J, nb, (up.trans up3).trans up4, .inr (.inr (by rw [hs]; exact hh4)), na, os, ag, w⟩
        first
          | exact wpAny_bind (wpAny_pure (wpAny_bind fin))
          | exact wpAny_bind fin
      | @cons x n i c ts b₀ suite np pos' hds2 l2 hi hln hc hsu r ih =>
        intro w
        obtain ⟨b, hb1, hyes, hno⟩ := w
        have hloc : Loc X.env.scope n := .inl hln
        refine wpAny_handleBy_cons (codeAny_handlers_test ?_) (by intro q; cases q)
        have LT : PySem.W.Looks (model X.prog X.w) h3 (typeOf (.ref a)) cls := fun A Q E s k q => wpAny_typeOf_ref (k _ _ he3) (by rw [hz3.1]; exact q)
        have LM := PySem.W.exm_one (M := model X.prog X.w) (J3.kIn) LT hb1
        have test : ∀ {Q : Value → Shared → Prop} {E : Value → Shared → Prop}, Q c { s' with heap := h3 } → wpAny (model X.prog X.w) (X.A.mark (some (.ref a))) (eval (.Name x np) X.env) Q E { s' with heap := h3 } := fun {Q E} q => by
          obtain ⟨hg, hdbg, hm | ⟨hm, hv, hnn⟩⟩ := hc
          · exact ld_glob (X := X.suite a ((a, oe3) :: (X.pn ++ pins))) S3 hg hm q hdbg
          · exact ld_blt (X := X.suite a ((a, oe3) :: (X.pn ++ pins))) S3 hg hm hv q hnn hdbg
        refine test (LM.here ?_)
        cases b with
        | true =>
          refine codeAny_handlers_suite_as ?_
          refine HandSPX.lands_againZ fl3 fun h4 fl4 up4 => ?_
          have J4 : Inv X pins σ' H' { s' with heap := h4 } := J.landed nb fl4.1 ((up.trans up3).trans up4) os ag
          obtain ⟨oe4, vs4, he4, hz4, hd4⟩ := fl4.there
          have S4 := J4.suite he4 hd4 na nL nF
          refine store_ok (X := X.suite a ((a, oe4) :: (X.pn ++ pins))) (v := .ref a) S4 hN hi hloc rfl (fun s5 S5 => ?_) (.inr hln)
          refine wpAny_mono ((hsu a oe4 cls d (X.pn ++ pins) hz4 ⟨_, hd4⟩).run [] s5 _ H' _ S5 (hyes rfl a na)) (fun f s6 hsp => ?_) (fun _ _ z => False.elim z)
          have end_ : ∀ {σ6 : St} {H6 : Hp} {Q : Shared → Prop}, Inv (X.suite a ((a, oe4) :: (X.pn ++ pins))) [] σ6 H6 s6 → (∀ s7, Inv X pins (σ6.set i none) H6 s7 → Q s7) →
              wpAny (model X.prog X.w) X.A (do bindName X.env n .none; unbindBehindTheSuite X.env n pos') (fun _ s7 => Q s7) X.xe s6 := fun {σ6 H6 Q} S6 hq => gone_ok (S6.unsuite ok) hN hi hln hq
          cases f with
          | next =>
            obtain ⟨σ6, H6, S6, q6⟩ := hsp
            exact end_ S6 fun s7 J7 => ⟨_, _, J7, q6⟩
          | brk =>
            obtain ⟨σ6, H6, S6, q6⟩ := hsp
            exact end_ S6 fun s7 J7 => ⟨_, _, J7, q6⟩
          | cont =>
            obtain ⟨σ6, H6, S6, q6⟩ := hsp
            exact end_ S6 fun s7 J7 => ⟨_, _, J7, q6⟩
          | ret u =>
            obtain ⟨v6, σ6, H6, S6, r6, q6⟩ := hsp
            exact end_ S6 fun s7 J7 => ⟨_, _, _, J7, r6, q6⟩
        | false =>
          show wpAny _ X.A (handleBy (.ref a) X.env hds2) _ _ _
          exact ih (hno rfl)
    exact go hh w
  · cases f with
    | next =>
      obtain ⟨σ', H', J', q⟩ := hsp
      exact wpAny_execs_nil ⟨σ', H', J'.ofTry ok, q⟩
    | brk =>
      obtain ⟨σ', H', J', q⟩ := hsp
      exact ⟨σ', H', J'.ofTry ok, q⟩
    | cont =>
      obtain ⟨σ', H', J', q⟩ := hsp
      exact ⟨σ', H', J'.ofTry ok, q⟩
    | ret u =>
      obtain ⟨v, σ', H', J', r, q⟩ := hsp
      exact ⟨v, σ', H', J'.ofTry ok, r, q⟩
end
end L2
namespace DL
open PySem PySem.Spec PyProof.Rows L2
section
variable {X : Cx} {M : LK} {W : WX}
abbrev DHs := List (Value × Nat × (Addr → Value → Option Addr → DTS))
def hdOff (i : Nat) (k : DEnds) : DEnds := { nx := fun δ n => k.nx (δ.set i none) n, rt := k.rt, bk := fun δ n => k.bk (δ.set i none) n, ct := fun δ n => k.ct (δ.set i none) n }
def dHds (K : PySem.W.Frag) (k : DEnds) : DHs → DX
  | [] => k.ex
  | (c, i, f) :: r => fun δ C ns ds n => ∃ b, PySem.W.exmOne K (.ref C) c = some b ∧ (b = true → ∀ a dd, f a (.ref C) (some dd) (hdOff i k) (δ.set i (some (.exc a C dd ns ds))) n) ∧ (b = false → dHds K k r δ C ns ds n)
/-- try / except .. as ..; W0: a suite raises nothing -/
def dTry (K : PySem.W.Frag) (tb : DTS) (l : DHs) : DTS := fun k δ n => tb { k with ex := dHds K k l } δ n
theorem Rep.put' {pn : Addr} {G H : Hp} {n : Nat} {σ : L2.St} {δ : DEnv} {i : Nat} (R : Rep M pn G n σ δ H) : Rep M pn G n (σ.set i none) (δ.set i none) H := R.wipe (vs := [i])
theorem hds_ok {pn : Addr} {G H : Hp} {D₀ : Ends} {k : DEnds} (s : SEnd M W pn G H D₀ k) {σ0 : L2.St} {δ0 : DEnv} {n0 : Nat} (R0 : Rep M pn G n0 σ0 δ0 H) : ∀ (l : DHs) (G' : Hp) (σ' : L2.St) (δ' : DEnv) (C a : Addr) (ns : List Str) (ds : List D) (n' : Nat) (H' : Hp), Adv pn G H G' H' → Rep M pn G' n' σ' δ' H' → XIs M G' a ns ds → dHds M.L.K k l δ' C ns ds n' →
    wManyAs M.L.K W D₀ (l.map fun p => (p.1, p.2.1, fun a cls d => liftS M W0 (p.2.2 a cls d))) (.ref C) (some a) σ' H'
  | [], G', σ', δ', C, a, ns, ds, n', H', A', R', hx, h => s.ex G' σ' δ' C a ns ds n' H' A' R' hx h
  | (c, i, f) :: r, G', σ', δ', C, a, ns, ds, n', H', A', R', hx, h => by
    obtain ⟨b, h1, h2, h3⟩ := h
    refine ⟨b, h1, fun hb a0 ha0 => ?_, fun hb => hds_ok s R0 r G' σ' δ' C a ns ds n' H' A' R' hx (h3 hb)⟩
    have s' := s.on R0 A'
    have hi : Is M G' (.ref a0) (.exc a0 C a ns ds) := by
      simp only [Is]
      exact ⟨trivial, hx⟩
    refine ⟨pn, G', n', _, hdOff i k, R'.put hi, h2 hb a0 a, ?_⟩
    exact ⟨fun G2 σ2 δ2 n2 H2 A2 R2 h => s'.nx G2 _ _ n2 H2 A2 R2.put' h, s'.rt, fun G2 σ2 δ2 n2 H2 A2 R2 h => s'.bk G2 _ _ n2 H2 A2 R2.put' h, fun G2 σ2 δ2 n2 H2 A2 R2 h => s'.ct G2 _ _ n2 H2 A2 R2.put' h, fun G2 σ2 δ2 C2 a2 ns2 ds2 n2 H2 A2 R2 _ h => h.elim⟩
theorem ds_try {body : List Stmt} {h₀ : ExceptHandler} {hds : List ExceptHandler} {l : DHs} {pos : Pos} {tb : DTS} (hK : X.K = M.L.K) (hs : X.stack = X.env :: X.outer) (hf : X.env.frame = some X.env.locals) (hN : X.N.Nodup) (tk : Takes X W)
    (hb : ∀ (W' : WX) (pn : List (Addr × Obj)) (xe : Value → Shared → Prop), Takes (X.tr pn xe) W' → PassesOwn (model X.prog X.w) X.A X.env xe → PSs (X.tr pn xe) body (liftS M W' tb))
    (hh : HdsAs X (h₀ :: hds) (l.map fun p => (p.1, p.2.1, fun a cls d => liftS M W0 (p.2.2 a cls d)))) : PS X (.Try body (h₀ :: hds) [] [] pos) (liftS M W (dTry M.L.K tb l)) :=
  PSw (ps_try_manyAs (tb := fun W' => liftS M W' tb) hs hf hN tk hb hh) fun D₀ σ H ⟨pn, G, n, δ, k, R, hf, s⟩ => by
    rw [hK]
    exact ⟨pn, G, n, δ, _, R, hf, ⟨s.nx, s.rt, s.bk, s.ct, fun G' σ' δ' C a ns ds n' H' A' R' hx h => hds_ok s R l G' σ' δ' C a ns ds n' H' A' R' hx h⟩⟩
/-- e.f, e the exception that the suite holds -/
def dXf (a : Addr) (cls : Value) (d : Option Addr) (C : Addr) (f : Str) (te : DTE) : DTE := fun δ n q e => te δ n (fun x n1 => match x with
  | .exc a' C' dd ns xs => (a' = a ∧ C' = C ∧ cls = .ref C ∧ d = some dd) ∧ ∃ v, (ns.zip xs).lookup f = some v ∧ q v n1
  | _ => False) e
theorem xd_look {G : Hp} {f : Str} : ∀ {fs : List (Str × V)} {xs : List D} {d : D}, IsL M G (fs.map (·.2)) xs → ((fs.map (·.1)).zip xs).lookup f = some d → ∃ v, fs.lookup f = some v ∧ Is M G v d
  | [], _, d, _, h => by simp at h
  | (g, v) :: fs, [], d, _, h => by simp at h
  | (g, v) :: fs, x :: xs, d, hi, h => by
    simp only [List.map_cons, IsL] at hi
    simp only [List.map_cons, List.zip_cons_cons, List.lookup] at h ⊢
    cases e : f == g with
    | true =>
      rw [e] at h
      cases h
      exact ⟨v, rfl, hi.1⟩
    | false =>
      rw [e] at h
      exact xd_look hi.2 h
theorem dp_xf {e : Expr} {a C : Addr} {cls : Value} {d : Option Addr} {f : Str} {te : DTE} (h : PE X e (tXf a cls d C f (liftE M W te))) : PE X e (liftE M W (dXf a cls d C f te)) :=
  PEw h fun σ H Q ⟨pn, G, n, δ, q, e, R, hf, hQ, hX⟩ => by
    refine ⟨pn, G, n, δ, _, e, R, hf, fun G1 v x n1 H1 A1 R1 i1 h1 => ?_, hX⟩
    cases x with
    | exc a' C' dd ns xs =>
      obtain ⟨⟨rfl, rfl, hc, hd⟩, w, hl, h1⟩ := h1
      simp only [Is] at i1
      obtain ⟨rfl, fs, g1, rfl, g3⟩ := i1
      obtain ⟨u, hu, iu⟩ := xd_look g3 hl
      exact ⟨rfl, hc, dd, fs, u, hd, R1.ex _ _ g1, hu, hQ G1 u w n1 H1 A1 R1 iu h1⟩
    | _ => exact h1.elim
end
end DL

set_option Elab.async false
set_option linter.all false
set_option maxRecDepth 100000
set_option maxHeartbeats 2000000
set_option autoImplicit false
/-! isinstance of a caught error that bears an own dict -/
namespace L2
open PySem PySem.Spec PyProof.Rows
def rIsED (K : PySem.W.Frag) (a : Addr) (cls : Value) (d : Option Addr) : List V → Hp → VK → Prop := fun xs H Q => ∃ (D dd : Addr) (fs : List (Str × V)) (c : V) (cv : Value) (b : Bool), xs = [.ref a, c] ∧ cls = .ref D ∧ d = some dd ∧ H dd = some (.xd fs) ∧ ExcC K D ∧ (∀ u, RelV c u → u = cv) ∧ PySem.W.kitOne K (.ref D) cv = some b ∧ Q (.bl b) H
theorem call_isED {X : Cx} {a : Addr} {oe : Obj} {cls : Value} {d : Option Addr} {pn : List (Addr × Obj)} (hz : Zc cls d oe) (hf : ∃ vs, oe.data = .fields vs) : CallR (X.suite a ((a, oe) :: pn)) (.builtin "isinstance") (rIsED X.K a cls d) := by
  intro pins s σ H xs us Q I r h
  obtain ⟨D, dd, fs, c, cv, b, rfl, rfl, rfl, hx, C, hcv, e, q⟩ := h
  cases r with
  | cons rx rr =>
    cases rr with
    | cons rt rr =>
      cases rr
      cases rx
      have ec := hcv _ rt
      subst ec
      obtain ⟨hget, _⟩ := I.pin (a, oe) (List.mem_append.mpr (.inl List.mem_cons_self))
      obtain ⟨vs, hv⟩ := hf
      obtain ⟨mA, hns, hr⟩ := (show ObjOk X.prog X.w H s.heap dd (.xd fs) from I.hok dd _ hx)
      obtain ⟨od, ho, hl⟩ := lookIn_ns hns
      have J : PySem.W.InstAt s.heap a oe D (some od) := by
        obtain ⟨oc, od', oda, osl⟩ := oe
        obtain ⟨h1, h2⟩ := hz
        dsimp only at h1 h2 hv
        subst h1 h2 hv
        exact ⟨hget, rfl, rfl, ho⟩
      obtain ⟨cd, hc, _⟩ := PySem.W.any_some C.hd
      exact PySem.W.kia_one (PySem.W.kitx_exc (by rw [hc]; rfl) C.hg C.hk C.hs C.ha C.hn C.ht C.hm) I.kIn J e (fun z => nomatch z) fun tk => ⟨.bl b, H, I.kept (t' := tk) fun _ _ z => z, rfl, q⟩
end L2
namespace DL
open PySem PySem.Spec PyProof.Rows L2
section
variable {X : Cx} {M : LK} {W : WX}
def gIsE (K : PySem.W.Frag) (a : Addr) (cls : Value) (d : Option Addr) : GC := fun xs n q => match xs with
  | [.exc a' C dd ns ys, c] => (a' = a ∧ cls = .ref C ∧ d = some dd ∧ ExcC K C) ∧ ∃ cv b, clsD c = some cv ∧ PySem.W.kitOne K (.ref C) cv = some b ∧ q (.bl b) n
  | _ => False
theorem drc_isE {a : Addr} {cls : Value} {d : Option Addr} : DRC M (rIsED M.L.K a cls d) (gIsE M.L.K a cls d) := by
  intro pn G n σ δ H vs xs q Q R iv h k
  unfold gIsE at h
  split at h
  · rename_i a' C dd ns ys c
    obtain ⟨v, v', rfl, iw, iw'⟩ := iv.two
    obtain ⟨⟨rfl, rfl, rfl, hC⟩, cv, b, hc, hb, h⟩ := h
    simp only [Is] at iw
    obtain ⟨rfl, fs, h1, _⟩ := iw
    exact ⟨C, dd, fs, v', cv, b, rfl, rfl, rfl, R.ex _ _ h1, hC, fun u ru => (clsD_ok hc iw').eq ru, hb, k G _ _ n H Adv.refl R (by simp only [Is]) h⟩
  · exact h.elim
end
end DL

set_option Elab.async false
set_option linter.all false
set_option maxRecDepth 100000
set_option maxHeartbeats 2000000
set_option autoImplicit false
/-! told(lambda: e): what the lambda raises is wished for at the slots of the def that calls it. -/
namespace LamX
open PySem PySem.Spec PyProof.Rows L2
section
variable {X : Cx} {pins : List (Addr × Obj)} {σ : L2.St} {H : Hp} {s : Shared}
theorem pe_actS {CXg : CXT} {Eg : XK} {Ng : List Str} {qg : Str} {sg : Scope} {g f c' : Addr} {cdg pm ctv : Value} {params : Arguments} {body : Expr} {scope : Scope} {k i : Nat} {a : Str} {pn : List (Addr × Obj)} {xe : Value → Shared → Prop} {W : WX} {t : XK → TE} {p1 p2 : Pos}
    (I : Inv X pins σ H s) (L : LamS X.env.scope scope) (hf : s.heap.get? f = some (PySem.W.kla_obj "<lambda>" (X.env.qual ++ "<lambda>") params body scope (cloFrom X.env.cells scope.names []) pm c' ctv)) (hfn : H f = none) (hfr : f ∉ frs X.stack)
    (hbind : bindArgs (PySem.W.kla_fn "<lambda>" (X.env.qual ++ "<lambda>") params body scope (cloFrom X.env.cells scope.names []) pm (.ref c') ctv) ⟨[], []⟩ = pure [])
    (tk : Takes ((cxOf CXg X.prog X.w X.K X.mg X.base Ng qg sg g cdg X.A X.stack s H Eg).tr pn xe) W) (hr : Room (k + 1) (X.A.deeper (envOfC qg sg s.heap.objs.size g cdg)))
    (hbody : ∀ (A : Around) (outer : List Env) (s : Shared) (H : Hp) (E : XK), Room k (A.deeper (lamEnv X scope s.heap.objs.size f c')) → PE (lamCx X A outer s H E scope f c') body (t E))
    (hN : Ng[i]? = some a) (hv : Vis sg a) (hd : (a == ("__debug__" : Str)) = false := by decide) (hcd : (a == ("__classdict__" : Str)) = false := by decide) :
    PE ((cxOf CXg X.prog X.w X.K X.mg X.base Ng qg sg g cdg X.A X.stack s H Eg).tr pn xe) (.Call (.Name a p1) [] [] p2)
      (fun σZ HZ Q => σZ[i]? = some (some (.ref f)) ∧ HZ c' = some (CodeO c' (X.env.qual ++ "<lambda>")) ∧ t (WE W σZ) σ HZ Q) := by
  refine ⟨fun pinsZ sZ σZ HZ Q IZ h => ?_⟩
  obtain ⟨hs, hc, ht⟩ := h
  refine wpAny_Call_Name_kw (thn ((pe_var (pos := p1) (i := i) hN hv hd hcd).run pinsZ sZ σZ HZ (fun v H1 => v = .ref f ∧ H1 = HZ) IZ ⟨.ref f, hs, rfl, rfl⟩) fun u s1 ⟨v, H1, I1, r1, q1⟩ => ?_)
  obtain ⟨ev, eH⟩ := q1
  subst ev
  rw [eH] at I1
  obtain rfl : u = Value.ref f := r1
  have of1 : s1.heap.get? f = some (PySem.W.kla_obj "<lambda>" (X.env.qual ++ "<lambda>") params body scope (cloFrom X.env.cells scope.names []) pm c' ctv) := I1.base.keep f _ hf hfn hfr (fun z => nomatch (show f ∈ ([] : List Addr) from z))
  refine PySem.W.callWith_F0 ⟨_, _, _, _, of1⟩ ?_
  have un : Un (frs X.stack) [] H HZ s.heap s1.heap := I1.base
  obtain ⟨⟨oc, vs, tk', hoc, hdc, hvc⟩, _, _⟩ := I1.hok c' _ hc
  have rc : codeAny (model X.prog X.w) (X.A.deeper (envOfC qg sg s.heap.objs.size g cdg)) (.call (.ref f) ⟨[], []⟩) (CR (L2.CX X.prog X.w) (envOfC qg sg s.heap.objs.size g cdg :: X.stack) X.prog X.w HZ s1 Q (WE W σZ)) s1 := by
    refine PySem.W.kla_callFunE hr.depth of1 rfl L.co L.gen rfl ⟨c', oc, vs, tk', rfl, hoc, hdc, hvc⟩ ?_
    rw [hbind]
    refine wpAny_pure (wpAny_newFunctionEnv (fun y hy => (L.own y hy).2) (fun y hy => absurd hy (by simp)) (fun h₁ hns hsb => ⟨I1.nolimit.fresh _ hsb, ?_⟩) L.kind)
    show codeAny _ _ (.expr body (lamEnv X scope s1.heap.objs.size f c')) _ _
    have kp : ∀ b o, s1.heap.get? b = some o → h₁.get? b = some o := fun b o e => hsb.extBut b o (Nat.ne_of_lt (Heap.lt_size e)) (Heap.get?_push_of_some _ e)
    have J : Inv (lamCx X (X.A.deeper (envOfC qg sg s.heap.objs.size g cdg)) (envOfC qg sg s.heap.objs.size g cdg :: X.stack) s1 HZ (WE W σZ) scope f c') [] σ HZ { s1 with heap := h₁, toks := s1.toks + ([] : List (Str × Value)).length } :=
      lam_start2 I L I1.env0 hr.hd un hns kp
    refine PySem.W.kla_codeExpr (wpAny_mono ((hbody _ _ s1 HZ (WE W σZ) (hr.deeper _)).run [] _ _ HZ Q J ht) (fun v s' hq => ?_) fun e s' hq => hq)
    obtain ⟨w', H', J', rv, q⟩ := hq
    exact ⟨w', H', J'.os, J'.bare, J'.base, J'.hok, rv, q⟩
  have hx := passAt tk σZ
  refine wpAny_call (codeAny_mono rc fun r s' hq => ?_)
  cases r with
  | error e => exact hx pinsZ HZ s1 e s' I1 hq
  | ok fl =>
    cases fl with
    | ret u => exact I1.after hq
    | next => exact False.elim hq
    | brk => exact False.elim hq
    | cont => exact False.elim hq
end
def GivesS (X : Cx) (Ng : List Str) (x : Str) (sg : Scope) (g : Addr) (cdg : Value) (bg : List Stmt) (a : Str) (q : Str) (TT : (XK → Hp → VK → Prop) → Hp → VK → Prop) : Prop :=
  ∀ (f c' : Addr) (s : Shared) (H : Hp) (Q : VK) (tl : XK → Hp → VK → Prop),
    (∀ (W : WX) (pn : List (Addr × Obj)) (xe : Value → Shared → Prop) (p1 p2 : Pos), Takes ((cxOf C8.CX0 X.prog X.w X.K X.mg X.base Ng x sg g cdg X.A X.stack s H C8.E0).tr pn xe) W →
      PE ((cxOf C8.CX0 X.prog X.w X.K X.mg X.base Ng x sg g cdg X.A X.stack s H C8.E0).tr pn xe) (.Call (.Name a p1) [] [] p2) (fun σZ HZ Q => σZ[0]? = some (some (.ref f)) ∧ HZ c' = some (CodeO c' q) ∧ tl (WE W σZ) HZ Q)) →
    H c' = some (CodeO c' q) → TT tl H Q →
    ∃ t, PSs (cxOf C8.CX0 X.prog X.w X.K X.mg X.base Ng x sg g cdg X.A X.stack s H C8.E0).nox bg t ∧ t { nx := fun _ H' => Q .non H', rt := Q } (L2.start Ng [.ref f]) H
section
variable {X : Cx}
theorem pe_lamcallS {T : List (Addr × Str)} {TT : (XK → Hp → VK → Prop) → Hp → VK → Prop} {x a : Str} {g c P : Addr} {k : Nat} {pg : Arguments} {bg : List Stmt} {sg : Scope} {dV kV doc pm cdv ct oc : Value} {an od : Option Addr} {osl : Array (Option Value)} {Ng : List Str}
    {params : Arguments} {body : Expr} {scope : Scope} {t : XK → TE} {p lpos pos : Pos} (hg : Gl X x) (hm : X.mg x = some (.ref g)) (hk : PySem.W.keepIn X.K (.ref g) = true)
    (lk : X.K.lookup g = some ⟨oc, od, .func (PySem.W.fnOf x x pg bg sg dV kV doc pm an cdv ct), osl⟩) (hcg : PySem.W.codeIn X.K cdv x = true) (hb : L2.Binds X.K (PySem.W.fnOf x x pg bg sg dV kV doc pm an cdv ct) [a] []) (Sg : FnScope Ng [a] sg) (hNg : Ng[0]? = some a) (hva : Vis sg a)
    (hG : GivesS X Ng x sg g cdv bg a (X.env.qual ++ "<lambda>") TT)
    (TB : TabB X.base X.mg c P) (hcode : X.env.code = .ref c) (hmT : (P, X.env.qual ++ "<lambda>") ∈ T) (hu : ∀ p ∈ T, p.1 = P → p.2 = X.env.qual ++ "<lambda>") (hr : Room (k + 2) X.A) (L : LamS X.env.scope scope) (hdef : defaultsOf params X.env = ([], []))
    (hbind : ∀ (q : Str) (cl : List (Str × Addr)) (pm cv ctv : Value), bindArgs (PySem.W.kla_fn "<lambda>" q params body scope cl pm cv ctv) ⟨[], []⟩ = pure [])
    (hbody : ∀ (A : Around) (outer : List Env) (s : Shared) (H : Hp) (E : XK) (f c' : Addr), Room k (A.deeper (lamEnv X scope s.heap.objs.size f c')) → PE (lamCx X A outer s H E scope f c') body (t E))
    (hdb : (x == ("__debug__" : Str)) = false := by decide) (hd : (a == ("__debug__" : Str)) = false := by decide) (hcd : (a == ("__classdict__" : Str)) = false := by decide) :
    PE X (.Call (.Name x p) [.Lambda params body scope lpos] [] pos) (tLam T TT t) := by
  refine ⟨fun pins s σ H Q I h => ?_⟩
  obtain ⟨hT, h⟩ := h
  refine wpAny_Call_Name_kw (ld_glob I hg hm ?_ hdb)
  refine PySem.W.callWith_K (h₀ := X.base) I.ok.mod.kin hk ?_ (by rfl) (by rfl)
  show wpAny _ _ (spliced ((false, eval (.Lambda params body scope lpos) X.env) :: backTo pos (starEach [] X.env))) _ _ s
  refine Calls.spliced_cons (lam_make2 I TB hcode hmT hu hT hdef (L.has I.ok) fun f c' pm' ctv H1 s' I1 eN T1 hf hfn hfr hco => ?_)
  refine Calls.spliced_nil ⟨I1.kIn, ?_⟩
  have rc : codeAny (model X.prog X.w) X.A (.call (.ref g) ⟨[.ref f], []⟩) (CR C8.CX0 X.stack X.prog X.w H1 s' Q C8.E0) s' := by
    refine run_ofS (N := Ng) (ps := [a]) (us := [.ref f]) (vs := [.ref f]) lk hcg Sg hr I1.env0 (hb s' [.ref f] I1.kIn rfl) (.cons rfl .nil) rfl fun hr' => ?_
    obtain ⟨t', ht', hq'⟩ := hG f c' s' H1 Q (fun E H' Q' => t E σ H' Q') (fun W pn xe p1 p2 tk => pe_actS (i := 0) I1 L hf hfn hfr (hbind _ _ _ _ _) tk hr' (fun A outer s H E hr2 => hbody A outer s H E f c' hr2) hNg hva hd hcd) hco (h H1 eN T1)
    exact ⟨t', ht'.nox, hq'⟩
  refine wpAny_call (codeAny_mono rc fun r s2 hq => ?_)
  cases r with
  | error e => exact (show False from hq).elim
  | ok fl =>
    cases fl with
    | ret u => exact I1.after hq
    | next => exact False.elim hq
    | brk => exact False.elim hq
    | cont => exact False.elim hq
end
end LamX
namespace DL
open PySem PySem.Spec PyProof.Rows L2
/-- a thunk's reading: draws so far, what is wanted of its value, of its exception -/
abbrev DThunk := Nat → (D → Nat → Prop) → DY → Prop
/-- the promise of a def that calls what it got -/
abbrev DTold := DThunk → Nat → (D → Nat → Prop) → Prop
def TTd (M : LK) (told : DTold) : (XK → Hp → VK → Prop) → Hp → VK → Prop := fun tl H Q => ∃ (fb : DTE) (pn : Addr) (G : Hp) (n : Nat) (σ : L2.St) (δ : DEnv) (qd : D → Nat → Prop),
  (∀ (E : XK) (H' : Hp) (Q' : VK), liftE M (fun cls d _ H' => E cls d H') fb σ H' Q' → tl E H' Q') ∧ Rep M pn G n σ δ H ∧ IsE M G σ δ ∧ told (fun n' q' y => fb δ n' q' fun _ => y) n qd ∧
  ∀ G' v d n' H', Adv pn G H G' H' → Rep M pn G' n' [] [] H' → Is M G' v d → qd d n' → Q v H'
/-- a(), a in slot i -/
def dAct (i : Nat) (f c : Addr) (q : Str) (σ : List (Option V)) (δ : DEnv) (fb : DTE) : DTE := fun δZ n qd e => δZ[i]? = some (some (.thk f c q σ δ)) ∧ ∃ (q' : D → Nat → Prop) (y' : DY), (fb δ n q' fun _ => y') ∧ (∀ d n', q' d n' → qd d n') ∧ ∀ C ns ds n', y' C ns ds n' → e δZ C ns ds n'
section
variable {X : Cx} {M : LK} {W : WX} {pn : Addr} {G G1 H H1 : Hp} {n : Nat}
theorem IsE.len {G : Hp} : ∀ {δ : List (Option D)} {σ : List (Option V)}, IsE M G σ δ → σ.length = δ.length
  | [], [], _ => rfl
  | d :: ds, v :: vs, h => by
    simp only [IsE] at h
    simp only [List.length_cons, IsE.len h.2]
  | [], _ :: _, h => by simp only [IsE] at h
  | _ :: _, [], h => by simp only [IsE] at h
theorem IsE.get {G : Hp} : ∀ {δ : List (Option D)} {σ : List (Option V)} {i : Nat} {d : D}, IsE M G σ δ → δ[i]? = some (some d) → ∃ v, σ[i]? = some (some v) ∧ Is M G v d
  | [], [], i, d, _, e => by simp at e
  | x :: ds, v :: vs, 0, d, h, e => by
    simp only [IsE] at h
    simp at e
    subst e
    cases v with
    | none => simp only [IsO] at h; exact h.1.elim
    | some v => simp only [IsO] at h; exact ⟨v, rfl, h.1⟩
  | x :: ds, v :: vs, i + 1, d, h, e => by
    simp only [IsE] at h
    obtain ⟨u, h1, h2⟩ := IsE.get (i := i) h.2 (by simpa using e)
    exact ⟨u, by simpa using h1, h2⟩
  | [], _ :: _, _, _, h, _ => by simp only [IsE] at h
  | _ :: _, [], _, _, h, _ => by simp only [IsE] at h
theorem IsE.env {σ : L2.St} {δ : DEnv} (h : IsE M G σ δ) : EnvIs M G σ δ H where
  len := h.len
  at_ := fun i d e => by
    obtain ⟨v, h1, h2⟩ := h.get e
    exact ⟨v, h1, .inl h2⟩
  ap := fun i j p xs ys _ e _ _ => by
    obtain ⟨v, h1, h2⟩ := h.get e
    simp only [Is] at h2
def noOwn : DEnv → Bool
  | [] => true
  | some (.own _) :: _ => false
  | _ :: r => noOwn r
theorem isE_of {G : Hp} : ∀ {δ : DEnv} {σ : L2.St}, σ.length = δ.length → (∀ (i : Nat) (d : D), δ[i]? = some (some d) → ∃ v, σ[i]? = some (some v) ∧ SIs M G H v d) → noOwn δ = true → IsE M G σ δ
  | [], [], _, _, _ => by simp only [IsE]
  | d :: δ, v :: σ, hl, h, hn => by
    simp only [IsE]
    have hn' : noOwn δ = true := by
      cases d with
      | none => exact hn
      | some d => cases d <;> first | exact hn | cases hn
    refine ⟨?_, isE_of (by simpa using hl) (fun i d e => by simpa using h (i + 1) d (by simpa using e)) hn'⟩
    cases d with
    | none => cases v <;> simp only [IsO]
    | some d =>
      obtain ⟨u, h1, h2⟩ := h 0 d rfl
      have e : v = some u := by simpa using h1
      subst e
      simp only [IsO]
      rcases h2 with h2 | ⟨xs, _, _, e, _⟩
      · exact h2
      · subst e; cases hn
  | [], _ :: _, hl, _, _ => by simp at hl
  | _ :: _, [], hl, _, _ => by simp at hl
/-- the tables have grown -/
theorem Rep.grow {σ : L2.St} {δ : DEnv} (R : Rep M pn G n σ δ H) (e : LamX.ExtN H H1) (t : LamX.Tabs M.L.T H1) : Rep M pn G n σ δ H1 ∧ Adv pn G H G H1 := by
  obtain ⟨kvs, hk⟩ := R.hp
  have A : Adv pn G H G H1 := ⟨Ext.refl _, fun _ _ _ _ h => h, fun b o h1 h2 _ => e b o h1 h2, fun ⟨k, hk⟩ => ⟨k, e _ _ hk notTbl_dK⟩⟩
  refine ⟨⟨fun a o h => e a o (R.ex _ _ h) (R.nt _ _ h), ⟨?_, R.pen.fr⟩, t, R.nt, R.pe, R.env.up A R.hp⟩, A⟩
  obtain ⟨la, ns, a, l, h1, h2⟩ := R.pen.ob
  exact ⟨la, ns, a, l, e _ _ h1 notTbl_dK, h2⟩
/-- an object that never changes becomes known -/
theorem Rep.know {σ : L2.St} {δ : DEnv} {c : Addr} {o : HO} (R : Rep M pn G n σ δ H) (h : H c = some o) (nm : ¬ mutO o) (nt : notTbl o) : ∃ G1, Rep M pn G1 n σ δ H ∧ Adv pn G H G1 H ∧ G1 c = some o := by
  obtain ⟨kvs, hk⟩ := R.hp
  cases e : G c with
  | some u =>
    have := R.ex _ _ e
    rw [h] at this
    cases this
    exact ⟨G, R, Adv.refl, e⟩
  | none =>
    have np : pn ≠ c := fun z => by
      rw [z, h] at hk
      cases hk
      exact nm mut_dK
    have A : Adv pn G H (upd G c o) H := ⟨Ext.new e, fun b u h1 h2 h3 => by
      by_cases z : b = c
      · rw [z, h] at h1; cases h1; exact (nm h2).elim
      · rw [upd_ne z]; exact h3, fun _ _ h _ _ => h, fun h => h⟩
    refine ⟨upd G c o, ⟨fun a u ea => ?_, ⟨?_, by rw [upd_ne np]; exact R.pen.fr⟩, R.tab, fun a u ea => ?_, R.pe, R.env.up A R.hp⟩, A, upd_same⟩
    · by_cases z : a = c
      · subst z; rw [upd_same] at ea; cases ea; exact h
      · rw [upd_ne z] at ea; exact R.ex _ _ ea
    · obtain ⟨la, ns, a, l, h1, h2, h3⟩ := R.pen.ob
      exact ⟨la, ns, a, l, h1, Ext.new e _ _ h2, h3⟩
    · by_cases z : a = c
      · subst z; rw [upd_same] at ea; cases ea; exact nt
      · rw [upd_ne z] at ea; exact R.nt _ _ ea
theorem dp_act {e : Expr} {i : Nat} {f c : Addr} {q : Str} {σ : L2.St} {δ : DEnv} {fb : DTE} {tl : XK → Hp → VK → Prop} (h : PE X e (fun σZ HZ Q => σZ[i]? = some (some (.ref f)) ∧ HZ c = some (LamX.CodeO c q) ∧ tl (WE W σZ) HZ Q))
    (htl : ∀ (E : XK) (H' : Hp) (Q' : VK), liftE M (fun cls d _ H' => E cls d H') fb σ H' Q' → tl E H' Q') : PE X e (liftE M W (dAct i f c q σ δ fb)) :=
  PEw h fun σZ HZ Q ⟨pn, G, n, δZ, qd, ex, R, ⟨h1, q', y', h2, hq, hy⟩, hQ, hX⟩ => by
    obtain ⟨v, g1, g2⟩ := R.env.get h1 (fun xs z => by cases z)
    simp only [Is] at g2
    obtain ⟨rfl, g2, g3⟩ := g2
    refine ⟨g1, R.ex _ _ g2, htl _ _ _ ⟨pn, G, n, δ, q', fun _ => y', ⟨R.ex, R.pen, R.tab, R.nt, R.pe, g3.env⟩, h2, fun G' v d n' H' A' R' i' h' => hQ G' v d n' H' A' (R.back R'.bare A') i' (hq d n' h'), fun G' C a ns ds n' H' A' R' hx q => ?_⟩⟩
    exact hX G' C a ns ds n' H' A' (R.back R'.bare A') hx (hy C ns ds n' q)
/-- a def that calls what it got, by its body -/
theorem gives_D {Ng : List Str} {x a q : Str} {sg : Scope} {g : Addr} {cdg : Value} {bg : List Stmt} {told : DTold} (tb : Addr → Addr → List (Option V) → DEnv → DTE → DTS) (hN : 1 ≤ Ng.length)
    (hb : ∀ (s : Shared) (H : Hp) (f c : Addr) (σ : List (Option V)) (δ : DEnv) (fb : DTE), (∀ (W : WX) (pn : List (Addr × Obj)) (xe : Value → Shared → Prop) (p1 p2 : Pos), Takes ((cxOf C8.CX0 X.prog X.w X.K X.mg X.base Ng x sg g cdg X.A X.stack s H C8.E0).tr pn xe) W →
      PE ((cxOf C8.CX0 X.prog X.w X.K X.mg X.base Ng x sg g cdg X.A X.stack s H C8.E0).tr pn xe) (.Call (.Name a p1) [] [] p2) (liftE M W (dAct 0 f c q σ δ fb))) →
      PSs (cxOf C8.CX0 X.prog X.w X.K X.mg X.base Ng x sg g cdg X.A X.stack s H C8.E0).nox bg (liftS M W0 (tb f c σ δ fb)))
    (hs : ∀ f c σ δ fb n qd, told (fun n' q' y => fb δ n' q' fun _ => y) n qd → tb f c σ δ fb { nx := fun _ n' => qd .non n', rt := qd } (startD Ng [.thk f c q σ δ]) n) :
    LamX.GivesS X Ng x sg g cdg bg a q (TTd M told) := by
  intro f c s H Q tl act hc h
  obtain ⟨fb, pn, G, n, σ, δ, qd, htl, R, hE, ht, hQ⟩ := h
  obtain ⟨G1, R1, A1, g1⟩ := R.know hc (fun z => by rcases z with ⟨xs, z⟩ | ⟨kvs, z⟩ <;> (unfold LamX.CodeO at z; cases z)) (LamX.codeO_ne)
  refine ⟨_, hb s H f c σ δ fb fun W pn xe p1 p2 tk => dp_act (act W pn xe p1 p2 tk) htl, ?_⟩
  have hi : IsL M G1 [.ref f] [.thk f c q σ δ] := by
    simp only [IsL, Is]
    exact ⟨⟨trivial, g1, IsE.up A1.ge δ σ hE⟩, trivial⟩
  refine ⟨pn, G1, n, _, _, R1.bare.start hi, hs f c σ δ fb n qd ht, ⟨fun G' σ' δ' n' H' A' R' h' => ?_, fun G' σ' δ' v d n' H' A' R' i' h' => ?_, fun G' σ' δ' n' H' A' R' h' => h'.elim, fun G' σ' δ' n' H' A' R' h' => h'.elim, fun G' σ' δ' C a ns ds n' H' A' R' _ h' => h'.elim⟩⟩
  · exact hQ G' .non .non n' H' (R.tr A1 A') R'.bare (by simp only [Is]) h'
  · exact hQ G' v d n' H' (R.tr A1 A') R'.bare i' h'
/-- told(lambda: e) -/
def dLam (told : DTold) (fb : DTE) : DTE := fun δ n q _ => noOwn δ = true ∧ told (fun n' q' y => fb δ n' q' fun _ => y) n q
theorem dp_lam {e : Expr} {told : DTold} {fb : DTE} (h : PE X e (LamX.tLam M.L.T (TTd M told) fun E => liftE M (fun cls d _ H' => E cls d H') fb)) : PE X e (liftE M W (dLam told fb)) :=
  PEw h fun σ H Q ⟨pn, G, n, δ, q, ex, R, ⟨h1, h2⟩, hQ, hX⟩ => by
    refine ⟨R.tab, fun H1 eN t1 => ?_⟩
    obtain ⟨R1, A1⟩ := R.grow eN t1
    exact ⟨fb, pn, G, n, σ, δ, q, fun _ _ _ h => h, R1, isE_of R1.env.len R1.env.at_ h1, h2, fun G' v d n' H' A' R' i' h' => hQ G' v d n' H' (R.tr A1 A') (R1.back R' A') i' h'⟩
end
end DL

set_option Elab.async false
set_option linter.all false
set_option maxRecDepth 100000
set_option maxHeartbeats 2000000
set_option autoImplicit false
/-! The pen: a dict of three entries. -/
namespace DL
open PySem PySem.Spec PyProof.Rows L2
structure KeysOk (M : LK) : Prop where
  a : M.ka ≠ "cells"
  l : M.kl ≠ "cells"
  la : M.kl ≠ M.ka
section
variable {X : Cx} {M : LK} {W : WX} {pn : Addr} {G G1 H H1 : Hp} {n : Nat} {σ : L2.St} {δ : DEnv}
abbrev penK (M : LK) (la : Addr) (a l : Int) : List (Key × V) := [(.inr "cells", .ref la), (.inr M.ka, .int a), (.inr M.kl, .int l)]
theorem penK_c {la : Addr} {a l : Int} : valV (penK M la a l) (.inr "cells") = some (.ref la) := valV_pos rfl
theorem penK_a (K : KeysOk M) {la : Addr} {a l : Int} : valV (penK M la a l) (.inr M.ka) = some (.int a) := by
  rw [valV_neg (fun z => K.a (Sum.inr.inj z).symm), valV_pos rfl]
theorem penK_l (K : KeysOk M) {la : Addr} {a l : Int} : valV (penK M la a l) (.inr M.kl) = some (.int l) := by
  rw [valV_neg (fun z => K.l (Sum.inr.inj z).symm), valV_neg (fun z => K.la (Sum.inr.inj z).symm), valV_pos rfl]
theorem putK_a (K : KeysOk M) {la : Addr} {a l b : Int} : putK (penK M la a l) (.inr M.ka) (.int b) = penK M la b l := by
  unfold putK
  rw [valV_any, penK_a K]
  have h1 : ¬ ((Sum.inr "cells" : Key) = .inr M.ka) := fun z => K.a (Sum.inr.inj z).symm
  have h2 : ¬ ((Sum.inr M.kl : Key) = .inr M.ka) := fun z => K.la (Sum.inr.inj z)
  simp only [Option.isSome_some, if_true, List.map_cons, List.map_nil, if_neg h1, if_neg h2]
theorem putK_l (K : KeysOk M) {la : Addr} {a l b : Int} : putK (penK M la a l) (.inr M.kl) (.int b) = penK M la a b := by
  unfold putK
  rw [valV_any, penK_l K]
  have h1 : ¬ ((Sum.inr "cells" : Key) = .inr M.kl) := fun z => K.l (Sum.inr.inj z).symm
  have h2 : ¬ ((Sum.inr M.ka : Key) = .inr M.kl) := fun z => K.la (Sum.inr.inj z).symm
  simp only [Option.isSome_some, if_true, List.map_cons, List.map_nil, if_neg h1, if_neg h2]
theorem tabs_dK {T : List (Addr × Str)} {p : Addr} {kvs : List (Key × V)} {o : HO} (h : LamX.Tabs T H) (hp : H p = some (.dK kvs)) : LamX.Tabs T (upd H p o) := fun q hq => by
  obtain ⟨ps, h1, h2, h3⟩ := h q hq
  refine ⟨ps, by rw [upd_ne (ne_of h1 hp (by intro z; cases z))]; exact h1, h2, fun pos cv hc => ?_⟩
  obtain ⟨c, e1, e2⟩ := h3 pos cv hc
  exact ⟨c, e1, by rw [upd_ne (ne_of e2 hp (by intro z; unfold LamX.CodeO at z; cases z))]; exact e2⟩
/-- the pen's numbers are changed -/
theorem Rep.pen_put {la : Addr} {a l a' l' : Int} {n' : Nat} (R : Rep M pn G n σ δ H) (h : H pn = some (.dK (penK M la a l))) (ha : 0 ≤ a' ∧ a' ≤ n') (hl : 0 ≤ l') : Rep M pn G n' σ δ (upd H pn (.dK (penK M la a' l'))) ∧ Adv pn G H G (upd H pn (.dK (penK M la a' l'))) := by
  have A : Adv pn G H G (upd H pn (.dK (penK M la a' l'))) := ⟨Ext.refl _, fun _ _ _ _ h => h, fun b o h1 _ h2 => by rw [upd_ne h2]; exact h1, fun _ => ⟨_, upd_same⟩⟩
  refine ⟨⟨fun b o e => ?_, ⟨?_, R.pen.fr⟩, tabs_dK R.tab h, R.nt, R.pe, R.env.up A R.hp⟩, A⟩
  · have : b ≠ pn := fun z => by rw [z, R.pen.fr] at e; cases e
    rw [upd_ne this]; exact R.ex _ _ e
  · obtain ⟨la2, ns, a2, l2, h1, h2, h3, h4, h5, h6, h7⟩ := R.pen.ob
    have e : la2 = la := by
      have z := h1.symm.trans h
      cases z
      rfl
    subst e
    exact ⟨la2, ns, a', l', upd_same, h2, h3, ha.1, ha.2, hl, h7⟩
def dPenC (cs : List Int) (f : DTE) : DTE := fun δ n q e => f δ n (fun x n1 => match x with | .pen => cs.length ≤ 63 → q (.lst (cs.map .int)) n1 | _ => False) e
def dPenA (f : DTE) : DTE := fun δ n q e => f δ n (fun x n1 => match x with | .pen => ∀ a : Int, 0 ≤ a → a ≤ n1 → q (.int a) n1 | _ => False) e
def dPenL (f : DTE) : DTE := fun δ n q e => f δ n (fun x n1 => match x with | .pen => ∀ l : Int, 0 ≤ l → q (.int l) n1 | _ => False) e
theorem IsL.of_ints : ∀ {ns : List Int}, IsL M G (ns.map V.int) (ns.map D.int)
  | [] => by simp only [List.map_nil, IsL]
  | i :: ns => by
    simp only [List.map_cons, IsL, Is]
    exact ⟨trivial, IsL.of_ints⟩
theorem dp_penc {o i : Expr} {pos : Pos} {f : DTE} (hu : X.A.units + 1 < cLine) (ho : PE X o (liftE M W f)) (hi : PE X i (tC (.str "cells"))) (hs : NoSl i) : PE X (.Subscript o i pos) (liftE M W (dPenC M.cs f)) :=
  PEw (pe_dget hu ho hi hs) fun σ H Q ⟨pn, G, n, δ, q, e, R, hf, hQ, hX⟩ => by
    refine ⟨pn, G, n, δ, _, e, R, hf, fun G1 v x n1 H1 A1 R1 i1 h1 => ?_, hX⟩
    cases x with
    | pen =>
      simp only [Is] at i1
      subst i1
      obtain ⟨la, ns, a, l, g1, g2, g3, g4, g5, g6, rfl⟩ := R1.pen.ob
      have e := R1.pe
      subst e
      refine ⟨_, .ref la, rfl, .inl ⟨_, .inr "cells", .inl g1, rfl, penK_c.symm⟩, hQ G1 _ _ n1 H1 A1 R1 ?_ (h1 g3)⟩
      simp only [Is]
      exact ⟨la, _, rfl, g2, IsL.of_ints⟩
    | _ => exact h1.elim
theorem dp_pena {o i : Expr} {pos : Pos} {f : DTE} (K : KeysOk M) (hu : X.A.units + 1 < cLine) (ho : PE X o (liftE M W f)) (hi : PE X i (tC (.str M.ka))) (hs : NoSl i) : PE X (.Subscript o i pos) (liftE M W (dPenA f)) :=
  PEw (pe_dget hu ho hi hs) fun σ H Q ⟨pn, G, n, δ, q, e, R, hf, hQ, hX⟩ => by
    refine ⟨pn, G, n, δ, _, e, R, hf, fun G1 v x n1 H1 A1 R1 i1 h1 => ?_, hX⟩
    cases x with
    | pen =>
      simp only [Is] at i1
      subst i1
      obtain ⟨la, ns, a, l, g1, g2, g3, g4, g5, g6, rfl⟩ := R1.pen.ob
      have e := R1.pe
      subst e
      refine ⟨_, .int a, rfl, .inl ⟨_, .inr M.ka, .inl g1, rfl, (penK_a K).symm⟩, hQ G1 _ _ n1 H1 A1 R1 ?_ (h1 a g4 g5)⟩
      simp only [Is]
    | _ => exact h1.elim
theorem dp_penl {o i : Expr} {pos : Pos} {f : DTE} (K : KeysOk M) (hu : X.A.units + 1 < cLine) (ho : PE X o (liftE M W f)) (hi : PE X i (tC (.str M.kl))) (hs : NoSl i) : PE X (.Subscript o i pos) (liftE M W (dPenL f)) :=
  PEw (pe_dget hu ho hi hs) fun σ H Q ⟨pn, G, n, δ, q, e, R, hf, hQ, hX⟩ => by
    refine ⟨pn, G, n, δ, _, e, R, hf, fun G1 v x n1 H1 A1 R1 i1 h1 => ?_, hX⟩
    cases x with
    | pen =>
      simp only [Is] at i1
      subst i1
      obtain ⟨la, ns, a, l, g1, g2, g3, g4, g5, g6, rfl⟩ := R1.pen.ob
      have e := R1.pe
      subst e
      refine ⟨_, .int l, rfl, .inl ⟨_, .inr M.kl, .inl g1, rfl, (penK_l K).symm⟩, hQ G1 _ _ n1 H1 A1 R1 ?_ (h1 l g6)⟩
      simp only [Is]
    | _ => exact h1.elim
/-- pen[at] = v -/
def dPutA (fv fp : DTE) : DTS := fun k δ n => fv δ n (fun v n1 => fp δ n1 (fun x n2 => match x, v with | .pen, .int a => (0 ≤ a ∧ a ≤ n2 + 1) ∧ k.nx δ (n2 + 1) | _, _ => False) k.ex) k.ex
def dPutL (fv fp : DTE) : DTS := fun k δ n => fv δ n (fun v n1 => fp δ n1 (fun x n2 => match x, v with | .pen, .int l => 0 ≤ l ∧ k.nx δ n2 | _, _ => False) k.ex) k.ex
theorem ds_puta {o i value : Expr} {pos pos' : Pos} {fv fp : DTE} (K : KeysOk M) (hu : X.A.units + 1 < cLine) (ho : PE X o (liftE M W fp)) (hi : PE X i (tC (.str M.ka))) (hv : PE X value (liftE M W fv)) (hs : swapsWith value (some (.Subscript o i pos')) pos.line X.env = pure false := by rfl) :
    PS X (.Assign [.Subscript o i pos'] value pos) (liftS M W (dPutA fv fp)) :=
  PSw (ps_dput hu ho hi hv hs) fun D₀ σ H ⟨pn, G, n, δ, k, R, hf, s⟩ => by
    refine ⟨pn, G, n, δ, _, k.ex, R, hf, fun G1 v x n1 H1 A1 R1 i1 h1 => ?_, s.xe⟩
    refine ⟨pn, G1, n1, δ, _, k.ex, R1, h1, fun G2 u y n2 H2 A2 R2 i2 h2 => ?_, (s.on R A1).xe⟩
    split at h2
    · rename_i a
      simp only [Is] at i1 i2
      subst i1; subst i2
      obtain ⟨la, ns, a0, l, g1, g2, g3, g4, g5, g6, rfl⟩ := R2.pen.ob
      have e := R2.pe
      subst e
      obtain ⟨R3, A3⟩ := R2.pen_put (n' := n2 + 1) g1 (a' := a) (by simpa using h2.1) g6
      refine ⟨_, _, rfl, .inl ⟨_, .inr M.ka, g1, rfl, (by show 3 < sizeLine; decide), by rw [putK_a K]⟩, s.nx _ _ _ _ _ (R.tr (R.tr A1 A2) A3) R3 h2.2⟩
    · exact h2.elim
theorem ds_putl {o i value : Expr} {pos pos' : Pos} {fv fp : DTE} (K : KeysOk M) (hu : X.A.units + 1 < cLine) (ho : PE X o (liftE M W fp)) (hi : PE X i (tC (.str M.kl))) (hv : PE X value (liftE M W fv)) (hs : swapsWith value (some (.Subscript o i pos')) pos.line X.env = pure false := by rfl) :
    PS X (.Assign [.Subscript o i pos'] value pos) (liftS M W (dPutL fv fp)) :=
  PSw (ps_dput hu ho hi hv hs) fun D₀ σ H ⟨pn, G, n, δ, k, R, hf, s⟩ => by
    refine ⟨pn, G, n, δ, _, k.ex, R, hf, fun G1 v x n1 H1 A1 R1 i1 h1 => ?_, s.xe⟩
    refine ⟨pn, G1, n1, δ, _, k.ex, R1, h1, fun G2 u y n2 H2 A2 R2 i2 h2 => ?_, (s.on R A1).xe⟩
    split at h2
    · rename_i l'
      simp only [Is] at i1 i2
      subst i1; subst i2
      obtain ⟨la, ns, a0, l, g1, g2, g3, g4, g5, g6, rfl⟩ := R2.pen.ob
      have e := R2.pe
      subst e
      obtain ⟨R3, A3⟩ := R2.pen_put (n' := n2) g1 (l' := l') ⟨g4, g5⟩ h2.1
      refine ⟨_, _, rfl, .inl ⟨_, .inr M.kl, g1, rfl, (by show 3 < sizeLine; decide), by rw [putK_l K]⟩, s.nx _ _ _ _ _ (R.tr (R.tr A1 A2) A3) R3 h2.2⟩
    · exact h2.elim
end
end DL

set_option Elab.async false
set_option linter.all false
set_option maxRecDepth 100000
set_option maxHeartbeats 2000000
set_option autoImplicit false
/-! The pen made, the law begun. -/
namespace DL
open PySem PySem.Spec PyProof.Rows L2
abbrev penKV (ka kl : Str) (la : Addr) (a l : Int) : List (Key × V) := [(.inr "cells", .ref la), (.inr ka, .int a), (.inr kl, .int l)]
/-- the pen of a script of at most 63 numbers -/
def spPen (K : PySem.W.Frag) (ka kl : Str) : Sp := fun vs H Q _ => ∃ (a : Addr) (ns : List Int), vs = [.ref a] ∧ SqL K H a (ns.map V.int) ∧ ns.length ≤ 63 ∧
  ∀ p sl la, H p = none → sl ≠ p → H sl = none → la ≠ p → la ≠ sl → H la = none → Q (.ref p) (upd (upd (upd (upd H p (.dK [])) sl (.lst (ns.map V.int))) la (.lst (ns.map V.int))) p (.dK (penKV ka kl la 0 0)))
def tPen (K : PySem.W.Frag) (ka kl : Str) : TS := tRet (tDisp [(tC (.str "cells"), tCB (fun xs H Q => ∃ p ys, xs = [.ref p] ∧ (SqL K H p ys ∨ SqT K H p ys) ∧ ∀ l, H l = none → Q (.ref l) (upd H l (.lst ys))) (tCons (tSl (rSlL K) (tVar 0) tNoPart (tPart (tC (.int 63)))) tNil)), (tC (.str ka), tC (.int 0)), (tC (.str kl), tC (.int 0))])
theorem upd_none {H : Hp} {a p : Addr} {o : HO} (h : H a = none) (hn : a ≠ p) : upd H p o a = none := by rw [upd_ne hn]; exact h
theorem none_upd {H : Hp} {a p : Addr} {o : HO} (h : upd H p o a = none) : a ≠ p ∧ H a = none := by
  by_cases z : a = p
  · rw [z, upd_same] at h; cases h
  · rw [upd_ne z] at h; exact ⟨z, h⟩
theorem merge3 {ka kl : Str} (h1 : ka ≠ "cells") (h2 : kl ≠ "cells") (h3 : kl ≠ ka) (la : Addr) : mergeK [] (penKV ka kl la 0 0) = penKV ka kl la 0 0 := by
  have e1 : ¬ ((Sum.inr "cells" : Key) = .inr ka) := fun z => h1 (Sum.inr.inj z).symm
  have e2 : ¬ ((Sum.inr "cells" : Key) = .inr kl) := fun z => h2 (Sum.inr.inj z).symm
  have e3 : ¬ ((Sum.inr ka : Key) = .inr kl) := fun z => h3 (Sum.inr.inj z).symm
  simp [mergeK, penKV, putK, e1, e2, e3]
theorem pen_pure {K : PySem.W.Frag} {ka kl x : Str} (h1 : ka ≠ "cells") (h2 : kl ≠ "cells") (h3 : kl ≠ ka) (vs : List V) (H : Hp) (Q : VK) (E : XK) (h : spPen K ka kl vs H Q E) : tPen K ka kl { nx := fun _ H' => Q .non H', rt := Q } (L2.start [x] vs) H := by
  obtain ⟨a, ns, rfl, hS, hl, hq⟩ := h
  have hcut : cutV (ns.map V.int) none (some 63) = ns.map V.int := by
    unfold cutV
    have : HT.sIx (ns.map V.int).length (ns.map V.int).length (some 63) = (ns.map V.int).length := by
      have := HT.sIx_nat (ns.map V.int).length (ns.map V.int).length 63
      rw [show ((63 : Nat) : Int) = 63 from rfl] at this
      rw [this, List.length_map]
      omega
    rw [this, HT.sIx_none, List.drop_zero, Nat.sub_zero, List.take_length]
  intro p hp
  refine ⟨.ref a, rfl, 63, rfl, a, ns.map V.int, rfl, Ext.seqL (Ext.new hp) hS, fun sl hsl => ?_⟩
  obtain ⟨n1, hsl'⟩ := none_upd hsl
  rw [hcut]
  refine ⟨sl, ns.map V.int, rfl, .inl (SqL.of upd_same), fun la hla => ?_⟩
  obtain ⟨n2, hla'⟩ := none_upd hla
  obtain ⟨n3, hla''⟩ := none_upd hla'
  refine ⟨by rw [upd_ne (Ne.symm n3), upd_ne (Ne.symm n1), upd_same], penKV ka kl la 0 0, rfl, (by show 3 ≤ 15; decide), ?_⟩
  rw [merge3 h1 h2 h3]
  exact hq p sl la hp n1 hsl' n3 n2 hla''
/-- the law's promise -/
def spLaw (K : PySem.W.Frag) (T : List (Addr × Str)) : Sp := fun vs H Q _ => ∃ (a : Addr) (ns : List Int), vs = [.ref a] ∧ ns.length ≤ 63 ∧ (∀ p ∈ T, H p.1 = some (.tbl #[])) ∧ SqL K H a (ns.map V.int) ∧ ∀ H', Q (.bl true) H'
abbrev MK (K : PySem.W.Frag) (T : List (Addr × Str)) (ka kl : Str) (pn : Addr) (cs : List Int) : LK := ⟨⟨K, T⟩, ka, kl, pn, cs⟩
def tLaw (K : PySem.W.Frag) (T : List (Addr × Str)) (ka kl : Str) (W : WX) (t : List Int → DTS) : TS := fun D σ H => ∃ pn cs, liftS (MK K T ka kl pn cs) W (t cs) D σ H
theorem pss_law {X : Cx} {b : List Stmt} {K : PySem.W.Frag} {T : List (Addr × Str)} {ka kl : Str} {W : WX} {t : List Int → DTS} (h : ∀ pn cs, PSs X b (liftS (MK K T ka kl pn cs) W (t cs))) : PSs X b (tLaw K T ka kl W t) :=
  ⟨fun pins s σ H D I ⟨pn, cs, q⟩ => (h pn cs).run pins s σ H D I q⟩
/-- the state in which the pen has been made -/
theorem Rep.first {K : PySem.W.Frag} {T : List (Addr × Str)} {ka kl : Str} {m : Nat} {H : Hp} {a p sl la : Addr} {ns : List Int} (hT : ∀ q ∈ T, H q.1 = some (.tbl #[])) (hl : ns.length ≤ 63) (hp : H p = none) (n1 : sl ≠ p) (hsl : H sl = none) (n2 : la ≠ p) (n3 : la ≠ sl) (hla : H la = none) :
    Rep (MK K T ka kl p ns) p (upd (fun _ => none) la (.lst (ns.map V.int))) 0 (some (.ref a) :: some (.ref p) :: List.replicate m none) (none :: some .pen :: List.replicate m none)
      (upd (upd (upd (upd H p (.dK [])) sl (.lst (ns.map V.int))) la (.lst (ns.map V.int))) p (.dK (penKV ka kl la 0 0))) where
  ex := fun b o e => by
    by_cases z : b = la
    · rw [z, upd_same] at e
      rw [z, upd_ne n2, upd_same]
      exact e
    · rw [upd_ne z] at e; cases e
  pen := ⟨⟨la, ns, 0, 0, upd_same, upd_same, hl, by decide, by decide, by decide, rfl⟩, by rw [upd_ne (Ne.symm n2)]⟩
  tab := fun q hq => by
    have h0 := hT q hq
    have e1 : q.1 ≠ p := fun z => by rw [z, hp] at h0; cases h0
    have e2 : q.1 ≠ sl := fun z => by rw [z, hsl] at h0; cases h0
    have e3 : q.1 ≠ la := fun z => by rw [z, hla] at h0; cases h0
    exact LamX.TabS.nil (by rw [upd_ne e1, upd_ne e3, upd_ne e2, upd_ne e1]; exact h0)
  nt := fun b o e => by
    by_cases z : b = la
    · rw [z, upd_same] at e; cases e; exact notTbl_lst
    · rw [upd_ne z] at e; cases e
  pe := rfl
  env := ⟨by simp, fun i d e => by
    match i with
    | 0 => simp at e
    | 1 =>
      simp at e
      subst e
      exact ⟨.ref p, rfl, .inl (by simp only [Is])⟩
    | i + 2 =>
      simp [List.getElem?_replicate] at e, fun i j q xs ys hij e => by
    match i with
    | 0 => simp at e
    | 1 => simp at e
    | i + 2 => simp [List.getElem?_replicate] at e⟩
theorem law_pure {K : PySem.W.Frag} {T : List (Addr × Str)} {ka kl : Str} {W : WX} {WS : L2.St → XK} {N : List Str} {m : Nat} {t : List Int → DTS} (hN : N.length = m + 2) (ht : ∀ cs : List Int, cs.length ≤ 63 → t cs { nx := fun _ _ => False, rt := fun d _ => d = .bl true } (none :: some .pen :: List.replicate m none) 0)
    (vs : List V) (H : Hp) (Q : VK) (E : XK) (h : spLaw K T vs H Q E) : tSeq (tAsg (tCallSD (spPen K ka kl) [] WS (tCons (tVar 0) tNil)) (gName 1)) (tLaw K T ka kl W t) { nx := fun _ H' => Q .non H', rt := Q } (L2.start N vs) H := by
  obtain ⟨a, ns, rfl, hl, hT, hS, hq⟩ := h
  have e0 : L2.start N [.ref a] = some (.ref a) :: none :: List.replicate m none := by
    unfold L2.start
    rw [hN]
    rfl
  rw [e0]
  refine ⟨.ref a, rfl, a, ns, rfl, hS, hl, fun p sl la hp n1 hsl n2 n3 hla => ?_⟩
  refine ⟨p, ns, p, _, 0, _, _, Rep.first (a := a) hT hl hp n1 hsl n2 n3 hla, ht ns hl, ⟨fun _ _ _ _ _ _ _ h => h.elim, fun G' σ' δ' v d n' H' A' R' i' h' => ?_, fun _ _ _ _ _ _ _ h => h.elim, fun _ _ _ _ _ _ _ h => h.elim, fun _ _ _ _ _ _ _ _ _ _ _ _ h => h.elim⟩⟩
  subst h'
  simp only [Is] at i'
  subst i'
  exact hq _
end DL

set_option Elab.async false
set_option linter.all false
set_option maxRecDepth 100000
set_option maxHeartbeats 2000000
set_option autoImplicit false
/-! Defs of the module and their calls. -/
namespace DL
open PySem PySem.Spec PyProof.Rows L2
/-- a def of the module as the top has left it -/
structure DefT (K : PySem.W.Frag) (mg : Str → Option Value) (x : Str) (st : Stmt) (ps : List Str) : Prop where
  ex : ∃ f fd, Fun K x x st f fd ∧ mg x = some (.ref f) ∧ PySem.W.keepIn K (.ref f) = true ∧ Binds K fd ps []
/-- .. whose code object stands at c -/
structure DefC (K : PySem.W.Frag) (mg : Str → Option Value) (x : Str) (st : Stmt) (ps : List Str) (c : Addr) : Prop where
  ex : ∃ (f : Addr) (oc : Value) (od an : Option Addr) (osl : Array (Option Value)) (dV kV doc pm ct : Value), K.lookup f = some ⟨oc, od, .func (PySem.W.fnOf x x (defArgs st) (defBody st) (defScope st) dV kV doc pm an (.ref c) ct), osl⟩ ∧ PySem.W.codeIn K (.ref c) x = true ∧
    mg x = some (.ref f) ∧ PySem.W.keepIn K (.ref f) = true ∧ Binds K (PySem.W.fnOf x x (defArgs st) (defBody st) (defScope st) dV kV doc pm an (.ref c) ct) ps []
/-- a def that holds its promise -/
structure CalD (P : Program) (w : World) (K : PySem.W.Frag) (mg : Str → Option Value) (base : Heap) (M : LK) (k : Nat) (x : Str) (ps : List Str) (s : DSp) : Prop where
  ex : ∃ f fd, FnOk P w K mg base (L2.CX P w) k f fd ps (lift M ps.length s) ∧ mg x = some (.ref f) ∧ PySem.W.keepIn K (.ref f) = true ∧ Binds K fd ps []
theorem CalD.of {P : Program} {w : World} {mg : Str → Option Value} {base : Heap} {M : LK} {x : Str} {st : Stmt} {N ps : List Str} {k : Nat} {s : DSp} (D : DefT M.L.K mg x st ps) (S : FnScope N ps (defScope st)) (t : DTS)
    (hb : ∀ (f : Addr) (cdv : Value) (A : Around) (outer : List Env) (s0 : Shared) (H : Hp) (E : XK), Room k (A.deeper (envOfC x (defScope st) s0.heap.objs.size f cdv)) →
      PSs (cxOf (L2.CX P w) P w M.L.K mg base N x (defScope st) f cdv A outer s0 H E) (defBody st) (liftS M (fun cls d _ H' => E cls d H') t))
    (hs : ∀ ds n q e, ds.length = ps.length → s ds n q e → t { nx := fun _ n' => q .non n', rt := q, ex := fun _ => e } (startD N ds) n) : CalD P w M.L.K mg base M (k + 1) x ps s := by
  obtain ⟨f, fd, F, hm, kp, b⟩ := D.ex
  exact ⟨f, fd, dfn F S t (hb f) hs, hm, kp, b⟩
theorem CalD.ofC {P : Program} {w : World} {mg : Str → Option Value} {base : Heap} {M : LK} {x : Str} {st : Stmt} {N ps : List Str} {k : Nat} {s : DSp} {c : Addr} (D : DefC M.L.K mg x st ps c) (S : FnScope N ps (defScope st)) (t : DTS)
    (hb : ∀ (f : Addr) (A : Around) (outer : List Env) (s0 : Shared) (H : Hp) (E : XK), Room k (A.deeper (envOfC x (defScope st) s0.heap.objs.size f (.ref c))) →
      PSs (cxOf (L2.CX P w) P w M.L.K mg base N x (defScope st) f (.ref c) A outer s0 H E) (defBody st) (liftS M (fun cls d _ H' => E cls d H') t))
    (hs : ∀ ds n q e, ds.length = ps.length → s ds n q e → t { nx := fun _ n' => q .non n', rt := q, ex := fun _ => e } (startD N ds) n) : CalD P w M.L.K mg base M (k + 1) x ps s := by
  obtain ⟨f, oc, od, an, osl, dV, kV, doc, pm, ct, lk, hcd, hm, kp, b⟩ := D.ex
  refine ⟨f, _, fn_of lk hcd S (fun vs H Q E h => lift_len h) fun A outer s0 H vs Q E hr h => ⟨_, hb f A outer s0 H E hr, ?_⟩, hm, kp, b⟩
  obtain ⟨pn, G, n, ds, q, e, R, hi, hk, hsp, hQ, hE⟩ := h
  refine ⟨pn, G, n, _, _, R.start hi, hs ds n q e hk hsp, ⟨fun G' σ' δ' n' H' A' R' h' => hQ G' .non .non n' H' A' R'.bare (by simp only [Is]) h', fun G' σ' δ' v d n' H' A' R' i' h' => hQ G' v d n' H' A' R'.bare i' h', fun G' σ' δ' n' H' A' R' h' => h'.elim, fun G' σ' δ' n' H' A' R' h' => h'.elim,
    fun G' σ' δ' C a ns xs n' H' A' R' x' h' => hE G' C a ns xs n' H' A' R'.bare x' h'⟩⟩
/-- a call of a def -/
def dCal (k : Nat) (s : DSp) (f : DTA) : DTE := fun δ n q e => f δ n (fun xs n1 => xs.length = k ∧ s xs n1 q (e δ)) e
section
variable {X : Cx} {M : LK} {W : WX} {x : Str} {p pos : Pos} {e : Expr} {es : List Expr} {f : DTA} {k j : Nat} {ps : List Str} {s : DSp}
theorem lift_cal (σ : L2.St) (H : Hp) (Q : VK) (h : liftE M W (dCal k s f) σ H Q) : tCallSD (lift M k s) [] (fun σ cls d H' => W cls d σ H') (liftA M W f) σ H Q := by
  obtain ⟨pn, G, n, δ, q, e, R, hf, hQ, hX⟩ := h
  refine ⟨pn, G, n, δ, _, e, R, hf, fun G1 vs ds n1 H1 A1 R1 i1 h1 => ?_, hX⟩
  show lift M k s (vs ++ []) H1 Q _
  rw [List.append_nil]
  exact ⟨pn, G1, n1, ds, q, e δ, R1.bare, i1, h1.1, h1.2, fun G2 v d n2 H2 A2 R2 i2 h2 => hQ G2 v d n2 H2 (R.tr A1 A2) (R1.back R2 A2) i2 h2, fun G2 C a ns xs n2 H2 A2 R2 x2 h2 => hX G2 C a ns xs n2 H2 (R.tr A1 A2) (R1.back R2 A2) x2 h2⟩
theorem dp_cal {m : Nat} (c : CalD X.prog X.w X.K X.mg X.base M k x ps s) (hr : Room j X.A) (hkj : k ≤ j) (tk : Takes X W) (hg : Gl X x) (ha : PA X (e :: es) (liftA M W f)) (hm : ps.length = m := by rfl) (hdb : (x == ("__debug__" : Str)) = false := by decide)
    (he : starEach (e :: es) X.env = (false, eval e X.env) :: starEach es X.env := by exact starEach_cons rfl) (hpl : (backTo pos (starEach es X.env)).any (·.1) = false := by rfl) : PE X (.Call (.Name x p) (e :: es) [] pos) (liftE M W (dCal m s f)) := by
  subst hm
  obtain ⟨g, fd, F, hm, kp, b⟩ := c.ex
  exact PEw (pe_callSD (dvs := []) (ds := []) F (hr.mono hkj) hg hm kp b .nil (fun σ => passAt tk σ) ha hdb he hpl) lift_cal
/-- .. without arguments -/
theorem dp_cal0 (c : CalD X.prog X.w X.K X.mg X.base M k x [] s) (hr : Room j X.A) (hkj : k ≤ j) (tk : Takes X W) (hg : Gl X x) (hdb : (x == ("__debug__" : Str)) = false := by decide) : PE X (.Call (.Name x p) [] [] pos) (liftE M W (dCal 0 s dNil)) := by
  obtain ⟨g, fd, F, hm, kp, b⟩ := c.ex
  have h : PE X (.Call (.Name x p) [] [] pos) (tCallSD (lift M 0 s) [] (fun σ cls d H' => W cls d σ H') tNil) := by
    refine ⟨fun pins s σ H Q I h => ?_⟩
    refine wpAny_Call_Name_kw (ld_glob I hg hm ?_ hdb)
    exact PySem.W.callWith_K0 I.kIn kp (run_fnSD (us := []) (vs := []) (dvs := []) F (hr.mono hkj) b .nil (passAt tk σ) I .nil h)
  refine PEw h fun σ H Q hl => ?_
  obtain ⟨pn, G, n, δ, q, ex, R, hf, hQ, hX⟩ := lift_cal σ H Q hl
  exact hQ G [] [] n H Adv.refl R (by simp only [IsL]) hf
/-- a name of the module that stands for a number, a text -/
theorem dp_gi {i : Int} (h : ∃ u, X.mg x = some u ∧ RelV (.int i) u) (hg : Gl X x) (hd : (x == ("__debug__" : Str)) = false := by decide) : PE X (.Name x pos) (liftE M W (dC (.int i))) := dp_c (C8.pe_gc hg h hd) fun _ => by simp only [Is]
theorem dp_gs {l : List Nat} (h : ∃ u, X.mg x = some u ∧ RelV (.str (S l)) u) (hg : Gl X x) (hd : (x == ("__debug__" : Str)) = false := by decide) : PE X (.Name x pos) (liftE M W (dC (.str l))) := dp_c (C8.pe_gc hg h hd) fun _ => by simp only [Is]
end
end DL

set_option Elab.async false
set_option linter.all false
set_option maxRecDepth 100000
set_option maxHeartbeats 8000000
set_option autoImplicit false
/-! k15: what the defs promise. -/
namespace DL
open PySem PySem.Spec PyProof.Rows L2
theorem boot_all : bootBuiltins "all" = some (.builtin "all") := by decide +kernel
theorem boot_ValueError : bootBuiltins "ValueError" = some (.type "ValueError") := by decide +kernel
section
variable {X : Cx} {M : LK} {W : WX}
/-- told(lambda: e), all in one -/
theorem dp_told {x a : Str} {c P cT : Addr} {k : Nat} {stT : Stmt} {Ng : List Str} {params : Arguments} {body : Expr} {scope : Scope} {p lpos pos : Pos} {told : DTold} {fb : DTE} (D : DefC X.K X.mg x stT [a] cT) (Sg : FnScope Ng [a] (defScope stT)) (hNg : Ng[0]? = some a) (hva : Vis (defScope stT) a)
    (hG : ∀ g, LamX.GivesS X Ng x (defScope stT) g (.ref cT) (defBody stT) a (X.env.qual ++ "<lambda>") (TTd M told))
    (TB : LamX.TabB X.base X.mg c P) (hcode : X.env.code = .ref c) (hmT : (P, X.env.qual ++ "<lambda>") ∈ M.L.T) (hu : ∀ p ∈ M.L.T, p.1 = P → p.2 = X.env.qual ++ "<lambda>") (hr : Room (k + 2) X.A) (L : LamX.LamS X.env.scope scope) (hdef : defaultsOf params X.env = ([], []))
    (hbind : ∀ (q : Str) (cl : List (Str × Addr)) (pm cv ctv : Value), bindArgs (PySem.W.kla_fn "<lambda>" q params body scope cl pm cv ctv) ⟨[], []⟩ = pure [])
    (hbody : ∀ (A : Around) (outer : List Env) (s : Shared) (H : Hp) (E : XK) (f c' : Addr), Room k (A.deeper (LamX.lamEnv X scope s.heap.objs.size f c')) → PE (LamX.lamCx X A outer s H E scope f c') body (liftE M (fun cls d _ H' => E cls d H') fb))
    (hg : Gl X x := by rfl) (hdb : (x == ("__debug__" : Str)) = false := by decide) (hd : (a == ("__debug__" : Str)) = false := by decide) (hcd : (a == ("__classdict__" : Str)) = false := by decide) :
    PE X (.Call (.Name x p) [.Lambda params body scope lpos] [] pos) (liftE M W (dLam told fb)) := by
  obtain ⟨g, oc, od, an, osl, dV, kV, doc, pm, ct, lk, hcd2, hm, kp, b⟩ := D.ex
  exact dp_lam (LamX.pe_lamcallS hg hm kp lk hcd2 b Sg hNg hva (hG g) TB hcode hmT hu hr L hdef hbind hbody hdb hd hcd)
end
end DL
namespace K15
open PySem PySem.Spec PyProof.Rows L2 DL
/-- where things stand -/
structure Ad where
  BadValue : Addr
  i_BadValue : Addr
  NotAName : Addr
  i_NotAName : Addr
  OffGrid : Addr
  SheetError : Addr
  TooMany : Addr
  k_law_told : Addr
  k_law_word_right : Addr
  p_law_word_right : Addr
  k_law_refused_right : Addr
  p_law_refused_right : Addr
/-! ### plain functions -/
def LET : List Nat := [65, 66, 67, 68, 69, 70, 71, 72, 73, 74, 75, 76, 77, 78, 79, 80, 81, 82, 83, 84, 85, 86, 87, 88, 89, 90]
def isLet (c : Nat) : Bool := (decide (97 ≤ c) && decide (c ≤ 122)) || (decide (65 ≤ c) && decide (c ≤ 90))
/-- the letters of a column, by fuel -/
def lets : Nat → Nat → List Nat
  | 0, _ => []
  | k + 1, c => if c = 0 then [] else lets k ((c - 1) / 26) ++ [65 + (c - 1) % 26]
def lettersN (c : Nat) : List Nat := lets 3 c
def numU (l : List Nat) : Nat := l.foldl (fun a c => a * 26 + (up1 c - 65) + 1) 0
def colOk (l : List Nat) : Bool := decide (1 ≤ l.length) && decide (l.length ≤ 3) && l.all isLet
/-! ### promises -/
def isIntD : D → Bool | .int _ => true | _ => false
def s_is_integer : DSp := fun ds n q _ => ∃ x, ds = [x] ∧ (kindD x).isSome = true ∧ q (.bl (isIntD x)) n
def inR (x : D) (lo hi : Int) : Bool := match x with | .int i => decide (lo ≤ i) && decide (i ≤ hi) | _ => false
def s_need_between (A : Ad) : DSp := fun ds n q e => ∃ x lo hi, ds = [x, .int lo, .int hi] ∧ (kindD x).isSome = true ∧ (inR x lo hi = true → q .non n) ∧ (inR x lo hi = false → e A.BadValue ["value"] [x] n)
def isStrD : D → Bool | .str _ => true | _ => false
def s_need_any_string (A : Ad) : DSp := fun ds n q e => ∃ x, ds = [x] ∧ (kindD x).isSome = true ∧ (isStrD x = true → q .non n) ∧ (isStrD x = false → e A.BadValue ["value"] [x] n)
def s_is_letter : DSp := fun ds n q _ => ∃ c, ds = [.str [c]] ∧ q (.bl (isLet c)) n
def s_column_letters : DSp := fun ds n q _ => ∃ c : Nat, ds = [.int c] ∧ 1 ≤ c ∧ c ≤ 18278 ∧ q (.str (lettersN c)) n
def s_column_number : DSp := fun ds n q _ => ∃ l : List Nat, ds = [.str l] ∧ l.length ≤ 1000 ∧ (colOk l = true → q (.int (numU l : Nat)) n) ∧ (colOk l = false → q .non n)
def s_letters_of (A : Ad) : DSp := fun ds n q e => ∃ x, ds = [x] ∧ (kindD x).isSome = true ∧ (∀ c : Nat, x = .int c → 1 ≤ c → c ≤ 18278 → q (.str (lettersN c)) n) ∧ (inR x 1 18278 = false → e A.BadValue ["value"] [x] n)
def s_column_of (A : Ad) : DSp := fun ds n q e => ∃ x, ds = [x] ∧ (kindD x).isSome = true ∧ (∀ l, x = .str l → l.length ≤ 1000 ∧ (colOk l = true → q (.int (numU l : Nat)) n) ∧ (colOk l = false → e A.NotAName ["name"] [.str l] n)) ∧ (isStrD x = false → e A.BadValue ["value"] [x] n)
def s__law_draw : DSp := fun ds n q _ => ∃ m : Int, ds = [.pen, .int m] ∧ 0 < m ∧ m < 1073741824 ∧ n < 1000000 ∧ ∀ k n', 0 ≤ k → k < m → n ≤ n' → n' ≤ n + 1 → q (.int k) n'
def s__law_pick : DSp := fun ds n q _ => ∃ xs : List D, ds = [.pen, .lst xs] ∧ 0 < xs.length ∧ xs.length ≤ 1000 ∧ n < 1000000 ∧ ∀ x n', x ∈ xs → n ≤ n' → n' ≤ n + 1 → q x n'
def s__law_signs : DSp := fun ds n q _ => ds = [] ∧ q (.str LET) n
def s__law_letters : DSp := fun ds n q _ => ∃ c : Nat, ds = [.int c] ∧ 1 ≤ c ∧ c ≤ 18278 ∧ q (.str (lettersN c)) n
def s__law_column : DSp := fun ds n q _ => ∃ l : List Nat, ds = [.str l] ∧ l.length ≤ 3 ∧ l.all isLet = true ∧ q (.int (numU l : Nat)) n
def s__law_is_letters : DSp := fun ds n q _ => ∃ l : List Nat, ds = [.str l] ∧ l.length ≤ 1000 ∧ l.all (· < 128) = true ∧ q (.bl (l.all isLet)) n
def s__law_mixed_case : DSp := fun ds n q _ => ∃ l : List Nat, ds = [.pen, .str l] ∧ l.length ≤ 3 ∧ l.all (fun c => decide (65 ≤ c) && decide (c ≤ 90)) = true ∧ n + 10 < 1000000 ∧ ∀ l' n', l'.map up1 = l → n ≤ n' → n' ≤ n + 3 → q (.str l') n'
/-- what told makes of a call -/
def s_law_told (A : Ad) : DTold := fun call n q => call n (fun d n' => q (.tup [.str [116, 111, 108, 100], d]) n') fun C ns xs n' =>
  (C = A.BadValue ∧ ∃ x, ns = [("value" : Str)] ∧ xs = [x] ∧ q (.tup [.str [66, 97, 100, 86, 97, 108, 117, 101], x]) n') ∨ (C = A.NotAName ∧ ∃ x, ns = [("name" : Str)] ∧ xs = [x] ∧ q (.tup [.str [78, 111, 116, 65, 78, 97, 109, 101], x]) n')
def s__law_column_drawn : DSp := fun ds n q _ => ds = [.pen] ∧ n + 10 < 1000000 ∧ ∀ (c : Nat) n', 1 ≤ c → c ≤ 18278 → n ≤ n' → n' ≤ n + 3 → q (.int c) n'
def s__law_letters_right : DSp := fun ds n q _ => ∃ c : Nat, ds = [.pen, .int c] ∧ 1 ≤ c ∧ c ≤ 18278 ∧ n + 10 < 1000000 ∧ ∀ n', n ≤ n' → n' ≤ n + 3 → q (.bl true) n'
def s__law_word_right : DSp := fun ds n q _ => ds = [.pen] ∧ n + 20 < 1000000 ∧ ∀ n', n ≤ n' → n' ≤ n + 10 → q (.bl true) n'
def s__law_refused_right : DSp := fun ds n q _ => ds = [.pen] ∧ n + 20 < 1000000 ∧ ∀ n', n ≤ n' → n' ≤ n + 10 → q (.bl true) n'
end K15

set_option Elab.async false
set_option linter.all false
set_option maxRecDepth 100000
set_option maxHeartbeats 8000000
set_option autoImplicit false
namespace K15
open PySem PySem.Spec PyProof.Rows L2 DL
def top (i : Nat) : Stmt := PySem.Challenge.pw_allinputs_k15_letters_of_columns.main.body.getD i (.Pass ⟨0, 0, 0, 0⟩)
theorem hu64 {k : Nat} {A : Around} (hr : Room k A) : A.units + 64 < cLine := by
  have := hr.un
  omega
/-- what the text says of the module -/
structure Txt (P : Program) (K : PySem.W.Frag) (mg : Str → Option Value) (A : Ad) : Prop where
  n_ValueError : mg "ValueError" = none
  n_all : mg "all" = none
  n_bool : mg "bool" = none
  n_int : mg "int" = none
  n_isinstance : mg "isinstance" = none
  n_len : mg "len" = none
  n_list : mg "list" = none
  n_max : mg "max" = none
  n_min : mg "min" = none
  n_range : mg "range" = none
  n_str : mg "str" = none
  g_LETTERS : ∃ u, mg "LETTERS" = some u ∧ RelV (.str (DL.S [65, 66, 67, 68, 69, 70, 71, 72, 73, 74, 75, 76, 77, 78, 79, 80, 81, 82, 83, 84, 85, 86, 87, 88, 89, 90])) u
  g_MOST_COLUMNS : ∃ u, mg "MOST_COLUMNS" = some u ∧ RelV (.int 18278) u
  c_BadValue : mg "BadValue" = some (.ref A.BadValue)
  c_NotAName : mg "NotAName" = some (.ref A.NotAName)
  c_OffGrid : mg "OffGrid" = some (.ref A.OffGrid)
  c_SheetError : mg "SheetError" = some (.ref A.SheetError)
  c_TooMany : mg "TooMany" = some (.ref A.TooMany)
  e_BadValue : PySem.EX.ErrTxt P K mg "BadValue" "value" A.BadValue A.i_BadValue
  e_NotAName : PySem.EX.ErrTxt P K mg "NotAName" "name" A.NotAName A.i_NotAName
  xf_BadValue : XfC K A.BadValue
  xf_NotAName : XfC K A.NotAName
  xf_OffGrid : XfC K A.OffGrid
  xf_TooMany : XfC K A.TooMany
  no_BadValue_value : PySem.W.findIn K (.ref A.BadValue) "value" = some none
  no_NotAName_name : PySem.W.findIn K (.ref A.NotAName) "name" = some none
  no_OffGrid_column : PySem.W.findIn K (.ref A.OffGrid) "column" = some none
  no_OffGrid_row : PySem.W.findIn K (.ref A.OffGrid) "row" = some none
  no_TooMany_most : PySem.W.findIn K (.ref A.TooMany) "most" = some none
  m_BB : PySem.W.exmOne K (.ref A.BadValue) (.ref A.BadValue) = some true
  m_NB : PySem.W.exmOne K (.ref A.NotAName) (.ref A.BadValue) = some false
  m_NN : PySem.W.exmOne K (.ref A.NotAName) (.ref A.NotAName) = some true
  m_NS : PySem.W.exmOne K (.ref A.NotAName) (.ref A.SheetError) = some true
  x_N : ExcC K A.NotAName
  i_NN : PySem.W.kitOne K (.ref A.NotAName) (.ref A.NotAName) = some true
  i_NV : PySem.W.kitOne K (.ref A.NotAName) (.type "ValueError") = some true
  i_NB : PySem.W.kitOne K (.ref A.NotAName) (.ref A.BadValue) = some false
  d_law_told : DefC K mg "_law_told" (top 28) ["_law_call"] A.k_law_told
abbrev XC (P : Program) (w : World) (K : PySem.W.Frag) (mg : Str → Option Value) (base : Heap) (N : List Str) (x : Str) (st : Stmt) (f : Addr) (cdv : Value) (A : Around) (outer : List Env) (s : Shared) (H : Hp) (E : XK) : Cx := cxOf (L2.CX P w) P w K mg base N x (defScope st) f cdv A outer s H E
abbrev MM (K : PySem.W.Frag) (Tb : List (Addr × Str)) (pn : Addr) (cs : List Int) : LK := MK K Tb "at" "left" pn cs
theorem KO {K : PySem.W.Frag} {Tb : List (Addr × Str)} {pn : Addr} {cs : List Int} : KeysOk (MM K Tb pn cs) := ⟨(by decide : ("at" : Str) ≠ "cells"), (by decide : ("left" : Str) ≠ "cells"), (by decide : ("left" : Str) ≠ "at")⟩
abbrev N_is_integer : List Str := ["value"]
theorem sc_is_integer : FnScope N_is_integer ["value"] (defScope (top 7)) := ⟨rfl, rfl, rfl, by decide +kernel, rfl, by decide +kernel, by decide +kernel⟩
def t_is_integer (K : PySem.W.Frag) (A : Ad) (cs : List Int) : DTS :=
  (dRet (dAndV (dCB (gIsi K) (dCons (dVar 0) (dCons (dC (.ty "int")) dNil))) (dNotV (dCB (gIsi K) (dCons (dVar 0) (dCons (dC (.ty "bool")) dNil))))))
abbrev N_need_between : List Str := ["value", "least", "most"]
theorem sc_need_between : FnScope N_need_between ["value", "least", "most"] (defScope (top 8)) := ⟨rfl, rfl, rfl, by decide +kernel, rfl, by decide +kernel, by decide +kernel⟩
def t_need_between (K : PySem.W.Frag) (A : Ad) (cs : List Int) : DTS :=
  (dIfS (dOr (dNot (dTest (dCal 1 s_is_integer (dCons (dVar 0) dNil)))) (dNot (dTest (dChain gLe gLe (dVar 1) (dVar 0) (dVar 2))))) (dRaise A.BadValue "value" (dCons (dVar 0) dNil)) dNext)
abbrev N_need_any_string : List Str := ["value"]
theorem sc_need_any_string : FnScope N_need_any_string ["value"] (defScope (top 9)) := ⟨rfl, rfl, rfl, by decide +kernel, rfl, by decide +kernel, by decide +kernel⟩
def t_need_any_string (K : PySem.W.Frag) (A : Ad) (cs : List Int) : DTS :=
  (dIfS (dNot (dTest (dCB (gIsi K) (dCons (dVar 0) (dCons (dC (.ty "str")) dNil))))) (dRaise A.BadValue "value" (dCons (dVar 0) dNil)) dNext)
abbrev N_is_letter : List Str := ["sign"]
theorem sc_is_letter : FnScope N_is_letter ["sign"] (defScope (top 11)) := ⟨rfl, rfl, rfl, by decide +kernel, rfl, by decide +kernel, by decide +kernel⟩
def t_is_letter (K : PySem.W.Frag) (A : Ad) (cs : List Int) : DTS :=
  (dRet (dOrV (dChain gLe gLe (dC (.str [97])) (dVar 0) (dC (.str [122]))) (dChain gLe gLe (dC (.str [65])) (dVar 0) (dC (.str [90])))))
abbrev N_column_letters : List Str := ["column", "found", "rest"]
theorem sc_column_letters : FnScope N_column_letters ["column"] (defScope (top 15)) := ⟨rfl, rfl, rfl, by decide +kernel, rfl, by decide +kernel, by decide +kernel⟩
def l_column_letters_1 (K : PySem.W.Frag) (A : Ad) (cs : List Int) : DTS :=
  (dSeq (dAsg (dOp gAdd (dOp gIx (dC (.str [65, 66, 67, 68, 69, 70, 71, 72, 73, 74, 75, 76, 77, 78, 79, 80, 81, 82, 83, 84, 85, 86, 87, 88, 89, 90])) (dOp gMod (dCB gInt (dCons (dOp gSub (dVar 2) (dC (.int 1))) dNil)) (dC (.int 26)))) (dVar 1)) (dgName 1))
    (dAsg (dOp gDiv (dOp gSub (dVar 2) (dC (.int 1))) (dC (.int 26))) (dgName 2)))
def t_column_letters (K : PySem.W.Frag) (A : Ad) (cs : List Int) : DTS :=
  (dSeq (dPar 1 2 (dCons (dC (.str [])) (dCons (dVar 0) dNil)))
    (dSeq (dWhile (dTest (dOp gGt (dVar 2) (dC (.int 0)))) (l_column_letters_1 K A cs))
    (dRet (dVar 1))))
abbrev N_column_number : List Str := ["letters", "sign", "column"]
theorem sc_column_number : FnScope N_column_number ["letters"] (defScope (top 16)) := ⟨rfl, rfl, rfl, by decide +kernel, rfl, by decide +kernel, by decide +kernel⟩
def l_column_number_1 (K : PySem.W.Frag) (A : Ad) (cs : List Int) : DTS :=
  (dAsg (dOp gAdd (dOp gAdd (dOp gMul (dVar 2) (dC (.int 26))) (dM1 gIndex (dC (.str [65, 66, 67, 68, 69, 70, 71, 72, 73, 74, 75, 76, 77, 78, 79, 80, 81, 82, 83, 84, 85, 86, 87, 88, 89, 90])) (dM0 gUpper (dVar 1)))) (dC (.int 1))) (dgName 2))
def t_column_number (K : PySem.W.Frag) (A : Ad) (cs : List Int) : DTS :=
  (dSeq (dIfS (dOr (dNot (dTest (dChain gLe gLe (dC (.int 1)) (dCB gLen (dCons (dVar 0) dNil)) (dC (.int 3))))) (dNot (dTest (dCB gAll (dCons (dLc (diSeq (dVar 0)) (dgName 1) dYes (dCal 1 s_is_letter (dCons (dVar 1) dNil)) [1]) dNil))))) (dRet (dC .non)) dNext)
    (dSeq (dAsg (dC (.int 0)) (dgName 2))
    (dSeq (dFor (diSeq (dVar 0)) (dgName 1) (l_column_number_1 K A cs))
    (dRet (dVar 2)))))
abbrev N_letters_of : List Str := ["column"]
theorem sc_letters_of : FnScope N_letters_of ["column"] (defScope (top 17)) := ⟨rfl, rfl, rfl, by decide +kernel, rfl, by decide +kernel, by decide +kernel⟩
def t_letters_of (K : PySem.W.Frag) (A : Ad) (cs : List Int) : DTS :=
  (dSeq (dDrop (dCal 3 (s_need_between A) (dCons (dVar 0) (dCons (dC (.int 1)) (dCons (dC (.int 18278)) dNil)))))
    (dRet (dCal 1 s_column_letters (dCons (dVar 0) dNil))))
abbrev N_column_of : List Str := ["letters", "column"]
theorem sc_column_of : FnScope N_column_of ["letters"] (defScope (top 18)) := ⟨rfl, rfl, rfl, by decide +kernel, rfl, by decide +kernel, by decide +kernel⟩
def t_column_of (K : PySem.W.Frag) (A : Ad) (cs : List Int) : DTS :=
  (dSeq (dDrop (dCal 1 (s_need_any_string A) (dCons (dVar 0) dNil)))
    (dSeq (dAsg (dCal 1 s_column_number (dCons (dVar 0) dNil)) (dgName 1))
    (dSeq (dIfS (dTest (dOp gIsN (dVar 1) (dC .non))) (dRaise A.NotAName "name" (dCons (dVar 0) dNil)) dNext)
    (dRet (dVar 1)))))
abbrev N__law_draw : List Str := ["_law_pen_here", "_law_span", "_law_digit", "_law_at", "_law_cell", "_law_mash"]
theorem sc__law_draw : FnScope N__law_draw ["_law_pen_here", "_law_span"] (defScope (top 21)) := ⟨rfl, rfl, rfl, by decide +kernel, rfl, by decide +kernel, by decide +kernel⟩
def t__law_draw (K : PySem.W.Frag) (A : Ad) (cs : List Int) : DTS :=
  (dSeq (dIfS (dTest (dOp gGe (dPenL (dVar 0)) (dVar 1))) (dSeq (dAsg (dOp gMod (dCB gInt (dCons (dPenL (dVar 0)) dNil)) (dVar 1)) (dgName 2))
    (dSeq (dPutL (dOp gDiv (dPenL (dVar 0)) (dVar 1)) (dVar 0))
    (dRet (dVar 2)))) dNext)
    (dSeq (dAsg (dPenA (dVar 0)) (dgName 3))
    (dSeq (dPutA (dOp gAdd (dVar 3) (dC (.int 1))) (dVar 0))
    (dSeq (dAsg (dOp gAdd (dOp gMul (dC (.int 47)) (dVar 3)) (dC (.int 109))) (dgName 4))
    (dSeq (dIfS (dTest (dOp gNe (dPenC cs (dVar 0)) (dLst dNil))) (dAsg (dOp gIx (dPenC cs (dVar 0)) (dOp gMod (dCB gInt (dCons (dVar 3) dNil)) (dCB gLen (dCons (dPenC cs (dVar 0)) dNil)))) (dgName 4)) dNext)
    (dSeq (dIfS (dAnd (dTest (dOp gLt (dVar 3) (dCB gLen (dCons (dPenC cs (dVar 0)) dNil)))) (dTest (dOp gGe (dVar 4) (dOp gPow (dC (.int 10)) (dC (.int 18)))))) (dSeq (dPutL (dOp gDiv (dOp gSub (dVar 4) (dOp gPow (dC (.int 10)) (dC (.int 18)))) (dVar 1)) (dVar 0))
    (dRet (dOp gMod (dCB gInt (dCons (dOp gSub (dVar 4) (dOp gPow (dC (.int 10)) (dC (.int 18)))) dNil)) (dVar 1)))) dNext)
    (dSeq (dAsg (dOp gAdd (dOp gMul (dOp gMod (dCB gInt (dCons (dVar 4) dNil)) (dC (.int 2147481997))) (dC (.int 45191))) (dOp gMul (dOp gMul (dC (.int 35407)) (dVar 3)) (dVar 3))) (dgName 5))
    (dSeq (dAsg (dOp gMod (dCB gInt (dCons (dOp gAdd (dOp gAdd (dVar 5) (dOp gMul (dC (.int 131)) (dVar 3))) (dC (.int 43))) dNil)) (dC (.int 2147482063))) (dgName 5))
    (dSeq (dAsg (dOp gMod (dCB gInt (dCons (dOp gAdd (dOp gMul (dVar 5) (dOp gAdd (dVar 5) (dC (.int 71069)))) (dOp gMul (dC (.int 11)) (dVar 3))) dNil)) (dC (.int 2147482121))) (dgName 5))
    (dRet (dOp gMod (dCB gInt (dCons (dOp gDiv (dOp gMod (dCB gInt (dCons (dOp gAdd (dOp gMul (dVar 5) (dVar 5)) (dOp gMul (dC (.int 107)) (dVar 5))) dNil)) (dC (.int 2147482223))) (dC (.int 32))) dNil)) (dVar 1))))))))))))
abbrev N__law_pick : List Str := ["_law_pen_here", "_law_menu"]
theorem sc__law_pick : FnScope N__law_pick ["_law_pen_here", "_law_menu"] (defScope (top 22)) := ⟨rfl, rfl, rfl, by decide +kernel, rfl, by decide +kernel, by decide +kernel⟩
def t__law_pick (K : PySem.W.Frag) (A : Ad) (cs : List Int) : DTS :=
  (dRet (dOp gIx (dVar 1) (dCal 2 s__law_draw (dCons (dVar 0) (dCons (dCB gLen (dCons (dVar 1) dNil)) dNil)))))
abbrev N__law_signs : List Str := []
theorem sc__law_signs : FnScope N__law_signs [] (defScope (top 23)) := ⟨rfl, rfl, rfl, by decide +kernel, rfl, by decide +kernel, by decide +kernel⟩
def t__law_signs (K : PySem.W.Frag) (A : Ad) (cs : List Int) : DTS :=
  (dRet (dC (.str [65, 66, 67, 68, 69, 70, 71, 72, 73, 74, 75, 76, 77, 78, 79, 80, 81, 82, 83, 84, 85, 86, 87, 88, 89, 90])))
abbrev N__law_letters : List Str := ["_law_column_here", "_law_found", "_law_left", "_law_turn"]
theorem sc__law_letters : FnScope N__law_letters ["_law_column_here"] (defScope (top 24)) := ⟨rfl, rfl, rfl, by decide +kernel, rfl, by decide +kernel, by decide +kernel⟩
def l__law_letters_1 (K : PySem.W.Frag) (A : Ad) (cs : List Int) : DTS :=
  (dIfS (dTest (dOp gGt (dVar 2) (dC (.int 0)))) (dSeq (dAsg (dOp gAdd (dOp gIx (dCal 0 s__law_signs dNil) (dOp gMod (dCB gInt (dCons (dOp gSub (dVar 2) (dC (.int 1))) dNil)) (dC (.int 26)))) (dVar 1)) (dgName 1))
    (dAsg (dOp gDiv (dOp gSub (dVar 2) (dC (.int 1))) (dC (.int 26))) (dgName 2))) dNext)
def t__law_letters (K : PySem.W.Frag) (A : Ad) (cs : List Int) : DTS :=
  (dSeq (dPar 1 2 (dCons (dC (.str [])) (dCons (dVar 0) dNil)))
    (dSeq (dFor (diRange1 (dCons (dC (.int 3)) dNil)) (dgName 3) (l__law_letters_1 K A cs))
    (dRet (dVar 1))))
abbrev N__law_column : List Str := ["_law_letters_here", "_law_found", "_law_sign"]
theorem sc__law_column : FnScope N__law_column ["_law_letters_here"] (defScope (top 25)) := ⟨rfl, rfl, rfl, by decide +kernel, rfl, by decide +kernel, by decide +kernel⟩
def l__law_column_1 (K : PySem.W.Frag) (A : Ad) (cs : List Int) : DTS :=
  (dAsg (dOp gAdd (dOp gAdd (dOp gMul (dVar 1) (dC (.int 26))) (dC (.int 1))) (dM1 gIndex (dCal 0 s__law_signs dNil) (dVar 2))) (dgName 1))
def t__law_column (K : PySem.W.Frag) (A : Ad) (cs : List Int) : DTS :=
  (dSeq (dAsg (dC (.int 0)) (dgName 1))
    (dSeq (dFor (diSeq (dM0 gUpper (dVar 0))) (dgName 2) (l__law_column_1 K A cs))
    (dRet (dVar 1))))
abbrev N__law_is_letters : List Str := ["_law_text", "_law_sign"]
theorem sc__law_is_letters : FnScope N__law_is_letters ["_law_text"] (defScope (top 26)) := ⟨rfl, rfl, rfl, by decide +kernel, rfl, by decide +kernel, by decide +kernel⟩
def t__law_is_letters (K : PySem.W.Frag) (A : Ad) (cs : List Int) : DTS :=
  (dRet (dOp gNotIn (dC (.bl false)) (dLc (diSeq (dCB gList (dCons (dVar 0) dNil))) (dgName 1) dYes (dOp gIn (dM0 gUpper (dVar 1)) (dCal 0 s__law_signs dNil)) [1])))
abbrev N__law_mixed_case : List Str := ["_law_pen_here", "_law_text", "_law_found", "_law_sign"]
theorem sc__law_mixed_case : FnScope N__law_mixed_case ["_law_pen_here", "_law_text"] (defScope (top 27)) := ⟨rfl, rfl, rfl, by decide +kernel, rfl, by decide +kernel, by decide +kernel⟩
def l__law_mixed_case_1 (K : PySem.W.Frag) (A : Ad) (cs : List Int) : DTS :=
  (dAsg (dOp gAdd (dVar 2) (dIf (dTest (dOp gEq (dCal 2 s__law_draw (dCons (dVar 0) (dCons (dC (.int 2)) dNil))) (dC (.int 0)))) (dM0 gLower (dVar 3)) (dVar 3))) (dgName 2))
def t__law_mixed_case (K : PySem.W.Frag) (A : Ad) (cs : List Int) : DTS :=
  (dSeq (dAsg (dC (.str [])) (dgName 2))
    (dSeq (dFor (diSeq (dVar 1)) (dgName 3) (l__law_mixed_case_1 K A cs))
    (dRet (dVar 2))))
abbrev N__law_told : List Str := ["_law_call", "_law_told_here", "e"]
theorem sc_law_told : FnScope N__law_told ["_law_call"] (defScope (top 28)) := ⟨rfl, rfl, rfl, by decide +kernel, rfl, by decide +kernel, by decide +kernel⟩
def t__law_told (K : PySem.W.Frag) (A : Ad) (f c : Addr) (q : Str) (σ : List (Option V)) (δ : List (Option D)) (fb : DTE) : DTS :=
  (dSeq (dAsg (dTup (dCons (dC (.str [110, 111, 116, 104, 105, 110, 103])) dNil)) (dgName 1))
    (dSeq (dTry K (dAsg (dTup (dCons (dC (.str [116, 111, 108, 100])) (dCons (dAct 0 f c q σ δ fb) dNil))) (dgName 1)) [(.ref A.BadValue, 2, fun a cls d => (dAsg (dTup (dCons (dC (.str [66, 97, 100, 86, 97, 108, 117, 101])) (dCons (dXf a cls d A.BadValue "value" (dVar 2)) dNil))) (dgName 1))), (.ref A.NotAName, 2, fun a cls d => (dAsg (dTup (dCons (dC (.str [78, 111, 116, 65, 78, 97, 109, 101])) (dCons (dXf a cls d A.NotAName "name" (dVar 2)) dNil))) (dgName 1))), (.ref A.OffGrid, 2, fun a cls d => (dAsg (dTup (dCons (dC (.str [79, 102, 102, 71, 114, 105, 100])) (dCons (dXf a cls d A.OffGrid "row" (dVar 2)) (dCons (dXf a cls d A.OffGrid "column" (dVar 2)) dNil)))) (dgName 1))), (.ref A.TooMany, 2, fun a cls d => (dAsg (dTup (dCons (dC (.str [84, 111, 111, 77, 97, 110, 121])) (dCons (dXf a cls d A.TooMany "most" (dVar 2)) dNil))) (dgName 1)))])
    (dRet (dVar 1))))
abbrev N__law_column_drawn : List Str := ["_law_pen_here"]
theorem sc__law_column_drawn : FnScope N__law_column_drawn ["_law_pen_here"] (defScope (top 29)) := ⟨rfl, rfl, rfl, by decide +kernel, rfl, by decide +kernel, by decide +kernel⟩
def t__law_column_drawn (K : PySem.W.Frag) (A : Ad) (cs : List Int) : DTS :=
  (dSeq (dIfS (dTest (dOp gEq (dCal 2 s__law_draw (dCons (dVar 0) (dCons (dC (.int 2)) dNil))) (dC (.int 0)))) (dRet (dOp gAdd (dC (.int 1)) (dCal 2 s__law_draw (dCons (dVar 0) (dCons (dC (.int 18278)) dNil))))) dNext)
    (dRet (dCB gMax (dCons (dC (.int 1)) (dCons (dCB gMin (dCons (dC (.int 18278)) (dCons (dOp gSub (dOp gAdd (dCal 2 s__law_pick (dCons (dVar 0) (dCons (dLst (dCons (dC (.int 1)) (dCons (dC (.int 26)) (dCons (dC (.int 52)) (dCons (dC (.int 702)) (dCons (dC (.int 728)) (dCons (dC (.int 1378)) (dCons (dC (.int 18278)) dNil)))))))) dNil))) (dCal 2 s__law_draw (dCons (dVar 0) (dCons (dC (.int 5)) dNil)))) (dC (.int 2))) dNil))) dNil)))))
abbrev N__law_letters_right : List Str := ["_law_pen_here", "_law_column_here", "_law_letters_here", "_law_behind", "_law_back"]
theorem sc__law_letters_right : FnScope N__law_letters_right ["_law_pen_here", "_law_column_here"] (defScope (top 30)) := ⟨rfl, rfl, rfl, by decide +kernel, rfl, by decide +kernel, by decide +kernel⟩
def u__law_letters_right_6 (K : PySem.W.Frag) (A : Ad) (cs : List Int) : DTS :=
  (dRet (dAndV (dOp gEq (dVar 4) (dVar 1)) (dAndV (dCB (gIsi K) (dCons (dVar 4) (dCons (dC (.ty "int")) dNil))) (dNotV (dCB (gIsi K) (dCons (dVar 4) (dCons (dC (.ty "bool")) dNil)))))))
def u__law_letters_right_5 (K : PySem.W.Frag) (A : Ad) (cs : List Int) : DTS :=
  (dSeq (dAsg (dCal 1 (s_column_of A) (dCons (dCal 2 s__law_mixed_case (dCons (dVar 0) (dCons (dVar 2) dNil))) dNil)) (dgName 4)) (u__law_letters_right_6 K A cs))
def u__law_letters_right_4 (K : PySem.W.Frag) (A : Ad) (cs : List Int) : DTS :=
  (dSeq (dIfS (dAnd (dTest (dOp gLt (dVar 1) (dC (.int 18278)))) (dTest (dOp gNe (dOp gIx (dVar 2) (dNeg (dC (.int 1)))) (dC (.str [90]))))) (dSeq (dAsg (dOp gAdd (dSl (dVar 2) dNoPart (dPart (dNeg (dC (.int 1))))) (dOp gIx (dCal 0 s__law_signs dNil) (dOp gAdd (dM1 gIndex (dCal 0 s__law_signs dNil) (dOp gIx (dVar 2) (dNeg (dC (.int 1))))) (dC (.int 1))))) (dgName 3))
    (dIfS (dTest (dOp gNe (dCal 1 (s_letters_of A) (dCons (dOp gAdd (dVar 1) (dC (.int 1))) dNil)) (dVar 3))) (dRet (dC (.bl false))) dNext)) dNext) (u__law_letters_right_5 K A cs))
def u__law_letters_right_3 (K : PySem.W.Frag) (A : Ad) (cs : List Int) : DTS :=
  (dSeq (dIfS (dOr (dTest (dOp gNe (dCB gLen (dCons (dVar 2) dNil)) (dOp gAdd (dOp gAdd (dC (.int 1)) (dCB gInt (dCons (dOp gGt (dVar 1) (dC (.int 26))) dNil))) (dCB gInt (dCons (dOp gGt (dVar 1) (dC (.int 702))) dNil))))) (dTest (dOp gNe (dM0 gUpper (dVar 2)) (dVar 2)))) (dRet (dC (.bl false))) dNext) (u__law_letters_right_4 K A cs))
def u__law_letters_right_2 (K : PySem.W.Frag) (A : Ad) (cs : List Int) : DTS :=
  (dSeq (dIfS (dOr (dNot (dTest (dCB (gIsi K) (dCons (dVar 2) (dCons (dC (.ty "str")) dNil))))) (dOr (dTest (dOp gNe (dVar 2) (dCal 1 s__law_letters (dCons (dVar 1) dNil)))) (dNot (dTest (dCal 1 s__law_is_letters (dCons (dVar 2) dNil)))))) (dRet (dC (.bl false))) dNext) (u__law_letters_right_3 K A cs))
def t__law_letters_right (K : PySem.W.Frag) (A : Ad) (cs : List Int) : DTS :=
  (dSeq (dAsg (dCal 1 (s_letters_of A) (dCons (dVar 1) dNil)) (dgName 2)) (u__law_letters_right_2 K A cs))
abbrev N__law_word_right : List Str := ["_law_pen_here", "_law_word", "_law_pool", "_law_turn", "_law_due"]
theorem sc__law_word_right : FnScope N__law_word_right ["_law_pen_here"] (defScope (top 31)) := ⟨rfl, rfl, rfl, by decide +kernel, rfl, by decide +kernel, by decide +kernel⟩
def u__law_word_right_6 (K : PySem.W.Frag) (A : Ad) (cs : List Int) : DTS :=
  (dRet (dOp gEq (dLam (s_law_told A) (dCal 1 (s_column_of A) (dCons (dVar 1) dNil))) (dVar 4)))
def u__law_word_right_5 (K : PySem.W.Frag) (A : Ad) (cs : List Int) : DTS :=
  (dSeq (dIfS (dAnd (dTest (dChain gLe gLe (dC (.int 1)) (dCB gLen (dCons (dVar 1) dNil)) (dC (.int 3)))) (dTest (dCal 1 s__law_is_letters (dCons (dVar 1) dNil)))) (dAsg (dTup (dCons (dC (.str [116, 111, 108, 100])) (dCons (dCal 1 s__law_column (dCons (dVar 1) dNil)) dNil))) (dgName 4)) dNext) (u__law_word_right_6 K A cs))
def u__law_word_right_4 (K : PySem.W.Frag) (A : Ad) (cs : List Int) : DTS :=
  (dSeq (dAsg (dTup (dCons (dC (.str [78, 111, 116, 65, 78, 97, 109, 101])) (dCons (dVar 1) dNil))) (dgName 4)) (u__law_word_right_5 K A cs))
def l__law_word_right_4 (K : PySem.W.Frag) (A : Ad) (cs : List Int) : DTS :=
  (dAsg (dOp gAdd (dVar 1) (dCal 2 s__law_pick (dCons (dVar 0) (dCons (dVar 2) dNil)))) (dgName 1))
def u__law_word_right_3 (K : PySem.W.Frag) (A : Ad) (cs : List Int) : DTS :=
  (dSeq (dFor (diRange1 (dCons (dCal 2 s__law_draw (dCons (dVar 0) (dCons (dC (.int 6)) dNil))) dNil)) (dgName 3) (l__law_word_right_4 K A cs)) (u__law_word_right_4 K A cs))
def u__law_word_right_2 (K : PySem.W.Frag) (A : Ad) (cs : List Int) : DTS :=
  (dSeq (dIfS (dTest (dOp gEq (dCal 2 s__law_draw (dCons (dVar 0) (dCons (dC (.int 2)) dNil))) (dC (.int 0)))) (dAsg (dOp gAdd (dVar 2) (dCB gList (dCons (dC (.str [36, 49, 32, 95, 45, 33, 123, 64, 91])) dNil))) (dgName 2)) dNext) (u__law_word_right_3 K A cs))
def t__law_word_right (K : PySem.W.Frag) (A : Ad) (cs : List Int) : DTS :=
  (dSeq (dAsg (dTup (dCons (dC (.str [])) (dCons (dCB gList (dCons (dOp gAdd (dCal 0 s__law_signs dNil) (dC (.str [97, 98, 99, 120, 121, 122]))) dNil)) dNil))) (dgTup 2 (dgCons (dgName 1) (dgCons (dgName 2) dgNil)))) (u__law_word_right_2 K A cs))
abbrev N__law_refused_right : List Str := ["_law_pen_here", "_law_odd", "_law_thing", "_law_told_here", "e"]
theorem sc__law_refused_right : FnScope N__law_refused_right ["_law_pen_here"] (defScope (top 32)) := ⟨rfl, rfl, rfl, by decide +kernel, rfl, by decide +kernel, by decide +kernel⟩
def u__law_refused_right_7 (K : PySem.W.Frag) (A : Ad) (cs : List Int) : DTS :=
  (dRet (dVar 3))
def u__law_refused_right_6 (K : PySem.W.Frag) (A : Ad) (cs : List Int) : DTS :=
  (dSeq (dTry K (dDrop (dCal 1 (s_column_of A) (dCons (dC (.str [])) dNil))) [(.ref A.SheetError, 4, fun a cls d => (dAsg (dAndV (dCB (gIsE K a cls d) (dCons (dVar 4) (dCons (dC (.ref A.NotAName)) dNil))) (dAndV (dCB (gIsE K a cls d) (dCons (dVar 4) (dCons (dC (.ty "ValueError")) dNil))) (dNotV (dCB (gIsE K a cls d) (dCons (dVar 4) (dCons (dC (.ref A.BadValue)) dNil)))))) (dgName 3)))]) (u__law_refused_right_7 K A cs))
def u__law_refused_right_5 (K : PySem.W.Frag) (A : Ad) (cs : List Int) : DTS :=
  (dSeq (dAsg (dC (.bl false)) (dgName 3)) (u__law_refused_right_6 K A cs))
def u__law_refused_right_4 (K : PySem.W.Frag) (A : Ad) (cs : List Int) : DTS :=
  (dSeq (dIfS (dTest (dOp gNe (dLam (s_law_told A) (dCal 1 (s_column_of A) (dCons (dVar 2) dNil))) (dTup (dCons (dC (.str [66, 97, 100, 86, 97, 108, 117, 101])) (dCons (dVar 2) dNil))))) (dRet (dC (.bl false))) dNext) (u__law_refused_right_5 K A cs))
def u__law_refused_right_3 (K : PySem.W.Frag) (A : Ad) (cs : List Int) : DTS :=
  (dSeq (dAsg (dCal 2 s__law_pick (dCons (dVar 0) (dCons (dLst (dCons (dC (.int 1)) (dCons (dC (.int 0)) (dCons (dC .non) (dCons (dC (.bl true)) (dCons (dLst (dCons (dC (.str [65])) dNil)) (dCons (dTup (dCons (dC (.str [65])) dNil)) (dCons (dC (.int 27)) dNil)))))))) dNil))) (dgName 2)) (u__law_refused_right_4 K A cs))
def u__law_refused_right_2 (K : PySem.W.Frag) (A : Ad) (cs : List Int) : DTS :=
  (dSeq (dIfS (dTest (dOp gNe (dLam (s_law_told A) (dCal 1 (s_letters_of A) (dCons (dVar 1) dNil))) (dTup (dCons (dC (.str [66, 97, 100, 86, 97, 108, 117, 101])) (dCons (dVar 1) dNil))))) (dRet (dC (.bl false))) dNext) (u__law_refused_right_3 K A cs))
def t__law_refused_right (K : PySem.W.Frag) (A : Ad) (cs : List Int) : DTS :=
  (dSeq (dAsg (dCal 2 s__law_pick (dCons (dVar 0) (dCons (dLst (dCons (dC (.int 0)) (dCons (dC (.int 18279)) (dCons (dNeg (dC (.int 1))) (dCons (dOp gAdd (dC (.int 18278)) (dOp gPow (dC (.int 10)) (dC (.int 12)))) (dCons (dC (.bl true)) (dCons (dC (.bl false)) (dCons (dC .non) (dCons (dC (.str [65])) (dCons (dC (.str [49])) (dCons (dLst (dCons (dC (.int 1)) dNil)) (dCons (dTup (dCons (dC (.int 1)) dNil)) dNil)))))))))))) dNil))) (dgName 1)) (u__law_refused_right_2 K A cs))
abbrev N_law : List Str := ["_law_script", "_law_pen_here", "_law_lap"]
theorem sc_law : FnScope N_law ["_law_script"] (defScope (top 33)) := ⟨rfl, rfl, rfl, by decide +kernel, rfl, by decide +kernel, by decide +kernel⟩
def l_law_1 (K : PySem.W.Frag) (A : Ad) (cs : List Int) : DTS :=
  (dIfS (dOr (dNot (dTest (dCal 2 s__law_letters_right (dCons (dVar 1) (dCons (dCal 1 s__law_column_drawn (dCons (dVar 1) dNil)) dNil))))) (dNot (dTest (dCal 1 s__law_word_right (dCons (dVar 1) dNil))))) (dRet (dC (.bl false))) dNext)
def t_law (K : PySem.W.Frag) (A : Ad) (cs : List Int) : DTS :=
  (dSeq (dFor (diRange1 (dCons (dC (.int 6)) dNil)) (dgName 2) (l_law_1 K A cs))
    (dRet (dCal 1 s__law_refused_right (dCons (dVar 1) dNil))))
end K15

set_option Elab.async false
set_option linter.all false
set_option maxRecDepth 100000
set_option maxHeartbeats 8000000
set_option autoImplicit false
namespace K15
open PySem PySem.Spec PyProof.Rows L2 DL
section
variable {P : Program} {K : PySem.W.Frag} {mg : Str → Option Value} {A : Ad} {cs : List Int}
theorem p_is_integer (ds : List D) (n : Nat) (q : D → Nat → Prop) (e : DY) (hl : ds.length = 1) (h : s_is_integer ds n q e) : t_is_integer K A cs { nx := fun _ n' => q .non n', rt := q, ex := fun _ => e } (startD N_is_integer ds) n := by
  obtain ⟨x, rfl, hk, h⟩ := h
  unfold t_is_integer
  cases x <;> first | (simp [kindD] at hk; done) | skip
  all_goals
    simp only [dSeq, dNext, dIfS, dTest, dOp, dVar, dC, dRet, dRetN, dGet, dAnd, dOr, dNot, dAndV, dOrV, dNotV, dIf, dNil, dCons, dTup, dLst, dCB, dM0, dM1, dDrop, dAsg, dgName, dPar, dCal, dChain, dRaise, dFor, diSeq, items, diRange1, diRange2, dLc, dYes, dgTup, dgCons, dgNil, dSl, dPart, dNoPart, dNeg, dPenC, dPenA, dPenL, dPutA, dPutL, startD, List.map_cons, List.map_nil, List.length_cons, List.length_nil, List.replicate, Nat.reduceAdd, Nat.reduceSub, List.cons_append, List.nil_append, List.append_nil, List.set_cons_zero, List.set_cons_succ, List.getElem?_cons_zero, List.getElem?_cons_succ]
    simp only [gIsi, isiD, kindD, isIntD, kit_int_int, kit_int_bool, kit_int_str, kit_int_list, kit_int_tuple, kit_bool_int, kit_bool_bool, kit_bool_str, kit_bool_list, kit_bool_tuple, kit_str_int, kit_str_bool, kit_str_str, kit_str_list, kit_str_tuple, kit_non_int, kit_non_bool, kit_non_str, kit_non_list, kit_non_tuple, kit_list_int, kit_list_bool, kit_list_str, kit_list_list, kit_list_tuple, kit_tuple_int, kit_tuple_bool, kit_tuple_str, kit_tuple_list, kit_tuple_tuple] at h ⊢
    exact h
theorem p_need_between (ds : List D) (n : Nat) (q : D → Nat → Prop) (e : DY) (hl : ds.length = 3) (h : s_need_between A ds n q e) : t_need_between K A cs { nx := fun _ n' => q .non n', rt := q, ex := fun _ => e } (startD N_need_between ds) n := by
  obtain ⟨x, lo, hi, rfl, hk, h1, h2⟩ := h
  unfold t_need_between
  simp only [dSeq, dNext, dIfS, dTest, dOp, dVar, dC, dRet, dRetN, dGet, dAnd, dOr, dNot, dAndV, dOrV, dNotV, dIf, dNil, dCons, dTup, dLst, dCB, dM0, dM1, dDrop, dAsg, dgName, dPar, dCal, dChain, dRaise, dFor, diSeq, items, diRange1, diRange2, dLc, dYes, dgTup, dgCons, dgNil, dSl, dPart, dNoPart, dNeg, dPenC, dPenA, dPenL, dPutA, dPutL, startD, List.map_cons, List.map_nil, List.length_cons, List.length_nil, List.replicate, Nat.reduceAdd, Nat.reduceSub, List.cons_append, List.nil_append, List.append_nil, List.set_cons_zero, List.set_cons_succ, List.getElem?_cons_zero, List.getElem?_cons_succ]
  cases x <;> first | (simp [kindD] at hk; done) | skip
  case int i =>
    refine ⟨trivial, _, rfl, rfl, ?_⟩
    simp only [isIntD, Bool.not_true, gLe, gOrd]
    by_cases a : lo ≤ i
    · by_cases b : i ≤ hi
      · simp only [a, b, decide_true, Bool.not_true]
        exact h1 (by simp [inR, a, b])
      · simp only [a, b, decide_true, decide_false, Bool.not_false]
        exact ⟨trivial, h2 (by simp [inR, a, b])⟩
    · simp only [a, decide_false, Bool.not_false]
      exact ⟨trivial, h2 (by simp [inR, a])⟩
  all_goals exact ⟨trivial, _, rfl, rfl, trivial, h2 rfl⟩
theorem p_need_any_string (ds : List D) (n : Nat) (q : D → Nat → Prop) (e : DY) (hl : ds.length = 1) (h : s_need_any_string A ds n q e) : t_need_any_string K A cs { nx := fun _ n' => q .non n', rt := q, ex := fun _ => e } (startD N_need_any_string ds) n := by
  obtain ⟨x, rfl, hk, h1, h2⟩ := h
  unfold t_need_any_string
  simp only [dSeq, dNext, dIfS, dTest, dOp, dVar, dC, dRet, dRetN, dGet, dAnd, dOr, dNot, dAndV, dOrV, dNotV, dIf, dNil, dCons, dTup, dLst, dCB, dM0, dM1, dDrop, dAsg, dgName, dPar, dCal, dChain, dRaise, dFor, diSeq, items, diRange1, diRange2, dLc, dYes, dgTup, dgCons, dgNil, dSl, dPart, dNoPart, dNeg, dPenC, dPenA, dPenL, dPutA, dPutL, startD, List.map_cons, List.map_nil, List.length_cons, List.length_nil, List.replicate, Nat.reduceAdd, Nat.reduceSub, List.cons_append, List.nil_append, List.append_nil, List.set_cons_zero, List.set_cons_succ, List.getElem?_cons_zero, List.getElem?_cons_succ]
  cases x <;> first | (simp [kindD] at hk; done) | skip
  all_goals simp only [gIsi, isiD, kindD, kit_int_int, kit_int_bool, kit_int_str, kit_int_list, kit_int_tuple, kit_bool_int, kit_bool_bool, kit_bool_str, kit_bool_list, kit_bool_tuple, kit_str_int, kit_str_bool, kit_str_str, kit_str_list, kit_str_tuple, kit_non_int, kit_non_bool, kit_non_str, kit_non_list, kit_non_tuple, kit_list_int, kit_list_bool, kit_list_str, kit_list_list, kit_list_tuple, kit_tuple_int, kit_tuple_bool, kit_tuple_str, kit_tuple_list, kit_tuple_tuple, Bool.not_false, Bool.not_true]
  case str l => exact h1 rfl
  all_goals exact ⟨trivial, h2 rfl⟩
theorem lt1 (a b : Nat) : ([a] < [b]) ↔ a < b := by simp [List.cons_lt_cons_iff]
theorem p_is_letter (ds : List D) (n : Nat) (q : D → Nat → Prop) (e : DY) (hl : ds.length = 1) (h : s_is_letter ds n q e) : t_is_letter K A cs { nx := fun _ n' => q .non n', rt := q, ex := fun _ => e } (startD N_is_letter ds) n := by
  obtain ⟨c, rfl, h⟩ := h
  unfold t_is_letter
  simp only [dSeq, dNext, dIfS, dTest, dOp, dVar, dC, dRet, dRetN, dGet, dAnd, dOr, dNot, dAndV, dOrV, dNotV, dIf, dNil, dCons, dTup, dLst, dCB, dM0, dM1, dDrop, dAsg, dgName, dPar, dCal, dChain, dRaise, dFor, diSeq, items, diRange1, diRange2, dLc, dYes, dgTup, dgCons, dgNil, dSl, dPart, dNoPart, dNeg, dPenC, dPenA, dPenL, dPutA, dPutL, startD, List.map_cons, List.map_nil, List.length_cons, List.length_nil, List.replicate, Nat.reduceAdd, Nat.reduceSub, List.cons_append, List.nil_append, List.append_nil, List.set_cons_zero, List.set_cons_succ, List.getElem?_cons_zero, List.getElem?_cons_succ, gLe, gOrd, lt1]
  unfold isLet at h
  by_cases a : 97 ≤ c
  · have a' : ¬ c < 97 := by omega
    by_cases b : c ≤ 122
    · have b' : ¬ 122 < c := by omega
      simp only [a, b, a', b', decide_true, decide_false, Bool.not_false, Bool.not_true, Bool.and_true, Bool.true_or] at h ⊢
      exact h
    · have b' : 122 < c := by omega
      have c1 : ¬ c < 65 := by omega
      have c2 : 90 < c := by omega
      have c3 : ¬ c ≤ 90 := by omega
      have c4 : 65 ≤ c := by omega
      simp only [a, b, a', b', c1, c2, c3, c4, decide_true, decide_false, Bool.not_false, Bool.not_true, Bool.and_true, Bool.and_false, Bool.true_or, Bool.or_self, Bool.false_or] at h ⊢
      exact h
  · have a' : c < 97 := by omega
    by_cases b : 65 ≤ c
    · have b' : ¬ c < 65 := by omega
      by_cases d : c ≤ 90
      · have d' : ¬ 90 < c := by omega
        simp only [a, b, d, a', b', d', decide_true, decide_false, Bool.not_false, Bool.not_true, Bool.and_true, Bool.false_and, Bool.false_or] at h ⊢
        exact h
      · have d' : 90 < c := by omega
        simp only [a, b, d, a', b', d', decide_true, decide_false, Bool.not_false, Bool.not_true, Bool.and_true, Bool.and_false, Bool.false_and, Bool.false_or] at h ⊢
        exact h
    · have b' : c < 65 := by omega
      simp only [a, b, a', b', decide_true, decide_false, Bool.not_false, Bool.not_true, Bool.and_true, Bool.and_false, Bool.false_and, Bool.false_or] at h ⊢
      exact h
/-! ### letters -/
def bnd : Nat → Nat
  | 0 => 0
  | k + 1 => 26 * (bnd k + 1)
theorem look26 : ∀ i : Nat, i < 26 → atI LET (i : Int) = some (65 + i) := by decide
theorem lets0 : ∀ k, lets k 0 = []
  | 0 => rfl
  | k + 1 => rfl
theorem letsS {k r : Nat} (h : 0 < r) : lets (k + 1) r = lets k ((r - 1) / 26) ++ [65 + (r - 1) % 26] := by
  show (if r = 0 then [] else _) = _
  rw [if_neg (by omega)]
theorem bndS {k r : Nat} (h : 0 < r) (hb : r ≤ bnd (k + 1)) : (r - 1) / 26 ≤ bnd k := by
  have : bnd (k + 1) = 26 * (bnd k + 1) := rfl
  omega
theorem cast_sub {r : Nat} (h : 0 < r) : ((r : Int) - 1) = ((r - 1 : Nat) : Int) := by omega
theorem cast_mod (r : Nat) : ((r : Nat) : Int) % 26 = ((r % 26 : Nat) : Int) := by omega
theorem cast_div (r : Nat) : ((r : Nat) : Int) / 26 = ((r / 26 : Nat) : Int) := by omega
theorem p_column_letters (ds : List D) (n : Nat) (q : D → Nat → Prop) (e : DY) (hl : ds.length = 1) (h : s_column_letters ds n q e) : t_column_letters K A cs { nx := fun _ n' => q .non n', rt := q, ex := fun _ => e } (startD N_column_letters ds) n := by
  obtain ⟨c, rfl, h1, h2, h⟩ := h
  unfold t_column_letters
  simp only [dSeq, dNext, dIfS, dTest, dOp, dVar, dC, dRet, dRetN, dGet, dAnd, dOr, dNot, dAndV, dOrV, dNotV, dIf, dNil, dCons, dTup, dLst, dCB, dM0, dM1, dDrop, dAsg, dgName, dPar, dCal, dChain, dRaise, dFor, diSeq, items, diRange1, diRange2, dLc, dYes, dgTup, dgCons, dgNil, dSl, dPart, dNoPart, dNeg, dPenC, dPenA, dPenL, dPutA, dPutL, startD, List.map_cons, List.map_nil, List.length_cons, List.length_nil, List.replicate, Nat.reduceAdd, Nat.reduceSub, List.cons_append, List.nil_append, List.append_nil, List.set_cons_zero, List.set_cons_succ, List.getElem?_cons_zero, List.getElem?_cons_succ, dWhile]
  refine ⟨fun m δ n' => n' = n ∧ ∃ (r k : Nat) (fd : List Nat), δ = [some (.int c), some (.str fd), some (.int r)] ∧ r = m ∧ r ≤ bnd k ∧ fd.length + k ≤ 3 ∧ lettersN c = lets k r ++ fd, ⟨c, rfl, c, 3, [], rfl, rfl, h2, by decide, by rw [List.append_nil]; rfl⟩, ?_⟩
  rintro m δ n' ⟨rfl, r, k, fd, rfl, rfl, hb, hlen, he⟩
  simp only [dSeq, dNext, dIfS, dTest, dOp, dVar, dC, dRet, dRetN, dGet, dAnd, dOr, dNot, dAndV, dOrV, dNotV, dIf, dNil, dCons, dTup, dLst, dCB, dM0, dM1, dDrop, dAsg, dgName, dPar, dCal, dChain, dRaise, dFor, diSeq, items, diRange1, diRange2, dLc, dYes, dgTup, dgCons, dgNil, dSl, dPart, dNoPart, dNeg, dPenC, dPenA, dPenL, dPutA, dPutL, startD, List.map_cons, List.map_nil, List.length_cons, List.length_nil, List.replicate, Nat.reduceAdd, Nat.reduceSub, List.cons_append, List.nil_append, List.append_nil, List.set_cons_zero, List.set_cons_succ, List.getElem?_cons_zero, List.getElem?_cons_succ, gGt, gOrd]
  by_cases hr : 0 < r
  · have hr' : (0 : Int) < (r : Int) := by omega
    simp only [hr', decide_true]
    cases k with
    | zero => exact absurd hb (by show ¬ r ≤ 0; omega)
    | succ k =>
      refine ⟨fun δ' n'' => n'' = n' ∧ δ' = [some (.int c), some (.str ((65 + (r - 1) % 26) :: fd)), some (.int ((r - 1) / 26 : Nat))], ?_, ?_⟩
      · rintro δ' n'' ⟨rfl, rfl⟩
        refine ⟨(r - 1) / 26, by omega, rfl, (r - 1) / 26, k, _, rfl, rfl, bndS hr hb, by simp only [List.length_cons]; omega, ?_⟩
        rw [he, letsS hr, List.append_assoc]
        rfl
      · unfold l_column_letters_1
        simp only [dSeq, dNext, dIfS, dTest, dOp, dVar, dC, dRet, dRetN, dGet, dAnd, dOr, dNot, dAndV, dOrV, dNotV, dIf, dNil, dCons, dTup, dLst, dCB, dM0, dM1, dDrop, dAsg, dgName, dPar, dCal, dChain, dRaise, dFor, diSeq, items, diRange1, diRange2, dLc, dYes, dgTup, dgCons, dgNil, dSl, dPart, dNoPart, dNeg, dPenC, dPenA, dPenL, dPutA, dPutL, startD, List.map_cons, List.map_nil, List.length_cons, List.length_nil, List.replicate, Nat.reduceAdd, Nat.reduceSub, List.cons_append, List.nil_append, List.append_nil, List.set_cons_zero, List.set_cons_succ, List.getElem?_cons_zero, List.getElem?_cons_succ, gInt, DL.gSub, gI0, gMod, gI, gIx, gAdd, gDiv, cast_sub hr, cast_mod, cast_div]
        refine ⟨by decide, by decide, _, look26 _ (Nat.mod_lt _ (by decide)), ?_, ⟨by decide, .inl (by decide)⟩, trivial, rfl⟩
        omega
  · have hr' : ¬ (0 : Int) < (r : Int) := by omega
    have hr0 : r = 0 := by omega
    subst hr0
    simp only [hr', decide_false]
    rw [lets0, List.nil_append] at he
    rw [← he]
    exact h
theorem p_letters_of (ds : List D) (n : Nat) (q : D → Nat → Prop) (e : DY) (hl : ds.length = 1) (h : s_letters_of A ds n q e) : t_letters_of K A cs { nx := fun _ n' => q .non n', rt := q, ex := fun _ => e } (startD N_letters_of ds) n := by
  obtain ⟨x, rfl, hk, h1, h2⟩ := h
  unfold t_letters_of
  cases x <;> first | (simp [kindD] at hk; done) | skip
  case int i =>
    simp only [dSeq, dNext, dIfS, dTest, dOp, dVar, dC, dRet, dRetN, dGet, dAnd, dOr, dNot, dAndV, dOrV, dNotV, dIf, dNil, dCons, dTup, dLst, dCB, dM0, dM1, dDrop, dAsg, dgName, dPar, dCal, dChain, dRaise, dFor, diSeq, items, diRange1, diRange2, dLc, dYes, dgTup, dgCons, dgNil, dSl, dPart, dNoPart, dNeg, dPenC, dPenA, dPenL, dPutA, dPutL, startD, List.map_cons, List.map_nil, List.length_cons, List.length_nil, List.replicate, Nat.reduceAdd, Nat.reduceSub, List.cons_append, List.nil_append, List.append_nil, List.set_cons_zero, List.set_cons_succ, List.getElem?_cons_zero, List.getElem?_cons_succ]
    refine ⟨trivial, _, _, _, rfl, hk, fun hr => ?_, fun hr => h2 hr⟩
    simp only [inR, Bool.and_eq_true, decide_eq_true_eq] at hr
    obtain ⟨c, rfl⟩ : ∃ c : Nat, i = c := ⟨i.toNat, by omega⟩
    exact ⟨trivial, c, rfl, by omega, by omega, h1 c rfl (by omega) (by omega)⟩
  all_goals
    simp only [dSeq, dNext, dIfS, dTest, dOp, dVar, dC, dRet, dRetN, dGet, dAnd, dOr, dNot, dAndV, dOrV, dNotV, dIf, dNil, dCons, dTup, dLst, dCB, dM0, dM1, dDrop, dAsg, dgName, dPar, dCal, dChain, dRaise, dFor, diSeq, items, diRange1, diRange2, dLc, dYes, dgTup, dgCons, dgNil, dSl, dPart, dNoPart, dNeg, dPenC, dPenA, dPenL, dPutA, dPutL, startD, List.map_cons, List.map_nil, List.length_cons, List.length_nil, List.replicate, Nat.reduceAdd, Nat.reduceSub, List.cons_append, List.nil_append, List.append_nil, List.set_cons_zero, List.set_cons_succ, List.getElem?_cons_zero, List.getElem?_cons_succ]
    exact ⟨trivial, _, _, _, rfl, hk, fun hr => by simp [inR] at hr, fun hr => h2 hr⟩
theorem p_column_of (ds : List D) (n : Nat) (q : D → Nat → Prop) (e : DY) (hl : ds.length = 1) (h : s_column_of A ds n q e) : t_column_of K A cs { nx := fun _ n' => q .non n', rt := q, ex := fun _ => e } (startD N_column_of ds) n := by
  obtain ⟨x, rfl, hk, h1, h2⟩ := h
  unfold t_column_of
  cases x <;> first | (simp [kindD] at hk; done) | skip
  case str l =>
    simp only [dSeq, dNext, dIfS, dTest, dOp, dVar, dC, dRet, dRetN, dGet, dAnd, dOr, dNot, dAndV, dOrV, dNotV, dIf, dNil, dCons, dTup, dLst, dCB, dM0, dM1, dDrop, dAsg, dgName, dPar, dCal, dChain, dRaise, dFor, diSeq, items, diRange1, diRange2, dLc, dYes, dgTup, dgCons, dgNil, dSl, dPart, dNoPart, dNeg, dPenC, dPenA, dPenL, dPutA, dPutL, startD, List.map_cons, List.map_nil, List.length_cons, List.length_nil, List.replicate, Nat.reduceAdd, Nat.reduceSub, List.cons_append, List.nil_append, List.append_nil, List.set_cons_zero, List.set_cons_succ, List.getElem?_cons_zero, List.getElem?_cons_succ]
    obtain ⟨g1, g2, g3⟩ := h1 l rfl
    exact ⟨trivial, _, rfl, hk, fun _ => ⟨trivial, l, rfl, g1, fun hc => ⟨rfl, g2 hc⟩, fun hc => ⟨rfl, trivial, g3 hc⟩⟩, fun hs => by simp [isStrD] at hs⟩
  all_goals
    simp only [dSeq, dNext, dIfS, dTest, dOp, dVar, dC, dRet, dRetN, dGet, dAnd, dOr, dNot, dAndV, dOrV, dNotV, dIf, dNil, dCons, dTup, dLst, dCB, dM0, dM1, dDrop, dAsg, dgName, dPar, dCal, dChain, dRaise, dFor, diSeq, items, diRange1, diRange2, dLc, dYes, dgTup, dgCons, dgNil, dSl, dPart, dNoPart, dNeg, dPenC, dPenA, dPenL, dPutA, dPutL, startD, List.map_cons, List.map_nil, List.length_cons, List.length_nil, List.replicate, Nat.reduceAdd, Nat.reduceSub, List.cons_append, List.nil_append, List.append_nil, List.set_cons_zero, List.set_cons_succ, List.getElem?_cons_zero, List.getElem?_cons_succ]
    exact ⟨trivial, _, rfl, hk, fun hs => by simp [isStrD] at hs, fun hs => h2 hs⟩
theorem p__law_signs (ds : List D) (n : Nat) (q : D → Nat → Prop) (e : DY) (hl : ds.length = 0) (h : s__law_signs ds n q e) : t__law_signs K A cs { nx := fun _ n' => q .non n', rt := q, ex := fun _ => e } (startD N__law_signs ds) n := by
  obtain ⟨rfl, h⟩ := h
  exact h
theorem p__law_letters (ds : List D) (n : Nat) (q : D → Nat → Prop) (e : DY) (hl : ds.length = 1) (h : s__law_letters ds n q e) : t__law_letters K A cs { nx := fun _ n' => q .non n', rt := q, ex := fun _ => e } (startD N__law_letters ds) n := by
  obtain ⟨c, rfl, h1, h2, h⟩ := h
  have loop : ∀ (l : List D) (x : Option D) (r k : Nat) (fd : List Nat), l.length = k → r ≤ bnd k → fd.length + k ≤ 3 → lettersN c = lets k r ++ fd → dForL (dgName 3) (l__law_letters_1 K A cs) l { nx := fun δ n' => (dRet (dVar 1)) { nx := fun _ n' => q .non n', rt := q, ex := fun _ => e } δ n', rt := q, ex := fun _ => e } [some (.int c), some (.str fd), some (.int r), x] n := by
    intro l
    induction l with
    | nil =>
      intro x r k fd hk hb hlen he
      have hk0 : k = 0 := hk.symm
      subst hk0
      simp only [dForL, dSeq, dNext, dIfS, dTest, dOp, dVar, dC, dRet, dRetN, dGet, dAnd, dOr, dNot, dAndV, dOrV, dNotV, dIf, dNil, dCons, dTup, dLst, dCB, dM0, dM1, dDrop, dAsg, dgName, dPar, dCal, dChain, dRaise, dFor, diSeq, items, diRange1, diRange2, dLc, dYes, dgTup, dgCons, dgNil, dSl, dPart, dNoPart, dNeg, dPenC, dPenA, dPenL, dPutA, dPutL, startD, List.map_cons, List.map_nil, List.length_cons, List.length_nil, List.replicate, Nat.reduceAdd, Nat.reduceSub, List.cons_append, List.nil_append, List.append_nil, List.set_cons_zero, List.set_cons_succ, List.getElem?_cons_zero, List.getElem?_cons_succ]
      rw [show lets 0 r = [] from rfl, List.nil_append] at he
      rw [← he]
      exact h
    | cons d l ih =>
      intro x r k fd hk hb hlen he
      cases k with
      | zero => exact absurd hk (by simp)
      | succ k =>
        have hk' : l.length = k := by simpa using hk
        simp only [dForL]
        unfold l__law_letters_1
        simp only [dSeq, dNext, dIfS, dTest, dOp, dVar, dC, dRet, dRetN, dGet, dAnd, dOr, dNot, dAndV, dOrV, dNotV, dIf, dNil, dCons, dTup, dLst, dCB, dM0, dM1, dDrop, dAsg, dgName, dPar, dCal, dChain, dRaise, dFor, diSeq, items, diRange1, diRange2, dLc, dYes, dgTup, dgCons, dgNil, dSl, dPart, dNoPart, dNeg, dPenC, dPenA, dPenL, dPutA, dPutL, startD, List.map_cons, List.map_nil, List.length_cons, List.length_nil, List.replicate, Nat.reduceAdd, Nat.reduceSub, List.cons_append, List.nil_append, List.append_nil, List.set_cons_zero, List.set_cons_succ, List.getElem?_cons_zero, List.getElem?_cons_succ, gGt, gOrd]
        by_cases hr : 0 < r
        · have hr' : (0 : Int) < (r : Int) := by omega
          simp only [hr', decide_true, gInt, DL.gSub, gI0, gMod, gI, gIx, gAdd, gDiv, cast_sub hr, cast_mod, cast_div]
          refine ⟨trivial, rfl, by decide, by decide, _, look26 _ (Nat.mod_lt _ (by decide)), ?_, ⟨by decide, .inl (by decide)⟩, ?_⟩
          · simp only [List.length_cons, List.length_nil]
            omega
          · refine ih _ _ k _ hk' (bndS hr hb) (by simp only [List.length_cons, List.length_append, List.length_nil]; omega) ?_
            rw [he, letsS hr, List.append_assoc]
        · have hr' : ¬ (0 : Int) < (r : Int) := by omega
          have hr0 : r = 0 := by omega
          subst hr0
          simp only [hr', decide_false]
          refine ih _ 0 k _ hk' (Nat.zero_le _) (by omega) ?_
          rw [he, lets0, lets0]
  unfold t__law_letters
  simp only [dSeq, dNext, dIfS, dTest, dOp, dVar, dC, dRet, dRetN, dGet, dAnd, dOr, dNot, dAndV, dOrV, dNotV, dIf, dNil, dCons, dTup, dLst, dCB, dM0, dM1, dDrop, dAsg, dgName, dPar, dCal, dChain, dRaise, dFor, diSeq, items, diRange1, diRange2, dLc, dYes, dgTup, dgCons, dgNil, dSl, dPart, dNoPart, dNeg, dPenC, dPenA, dPenL, dPutA, dPutL, startD, List.map_cons, List.map_nil, List.length_cons, List.length_nil, List.replicate, Nat.reduceAdd, Nat.reduceSub, List.cons_append, List.nil_append, List.append_nil, List.set_cons_zero, List.set_cons_succ, List.getElem?_cons_zero, List.getElem?_cons_succ]
  refine ⟨by decide, by decide, ?_⟩
  exact loop _ none c 3 [] rfl h2 (by decide) (by rw [List.append_nil]; rfl)
end
end K15

set_option Elab.async false
set_option linter.all false
set_option maxRecDepth 100000
set_option maxHeartbeats 8000000
set_option autoImplicit false
namespace K15
open PySem PySem.Spec PyProof.Rows L2 DL
section
variable {P : Program} {K : PySem.W.Frag} {mg : Str → Option Value} {A : Ad} {cs : List Int}
theorem p__law_told (T : Txt P K mg A) {f c : Addr} {q : Str} {σ : List (Option V)} {δ : List (Option D)} {fb : DTE} {n : Nat} {qd : D → Nat → Prop} (h : s_law_told A (fun n' q' y => fb δ n' q' fun _ => y) n qd) :
    t__law_told K A f c q σ δ fb { nx := fun _ n' => qd .non n', rt := qd } (startD N__law_told [.thk f c q σ δ]) n := by
  unfold s_law_told at h
  unfold t__law_told
  simp only [dSeq, dNext, dIfS, dTest, dOp, dVar, dC, dRet, dRetN, dGet, dAnd, dOr, dNot, dAndV, dOrV, dNotV, dIf, dNil, dCons, dTup, dLst, dCB, dM0, dM1, dDrop, dAsg, dgName, dPar, dCal, dChain, dRaise, dFor, diSeq, items, diRange1, diRange2, dLc, dYes, dgTup, dgCons, dgNil, dSl, dPart, dNoPart, dNeg, dPenC, dPenA, dPenL, dPutA, dPutL, startD, List.map_cons, List.map_nil, List.length_cons, List.length_nil, List.replicate, Nat.reduceAdd, Nat.reduceSub, List.cons_append, List.nil_append, List.append_nil, List.set_cons_zero, List.set_cons_succ, List.getElem?_cons_zero, List.getElem?_cons_succ, dTry, dAct]
  refine ⟨by decide, trivial, _, _, h, fun d n' hq => ⟨by decide, hq⟩, fun C ns xs n' hy => ?_⟩
  rcases hy with ⟨rfl, x, rfl, rfl, hq⟩ | ⟨rfl, x, rfl, rfl, hq⟩
  · refine ⟨true, T.m_BB, fun _ a dd => ?_, fun z => nomatch z⟩
    simp only [dSeq, dNext, dIfS, dTest, dOp, dVar, dC, dRet, dRetN, dGet, dAnd, dOr, dNot, dAndV, dOrV, dNotV, dIf, dNil, dCons, dTup, dLst, dCB, dM0, dM1, dDrop, dAsg, dgName, dPar, dCal, dChain, dRaise, dFor, diSeq, items, diRange1, diRange2, dLc, dYes, dgTup, dgCons, dgNil, dSl, dPart, dNoPart, dNeg, dPenC, dPenA, dPenL, dPutA, dPutL, startD, List.map_cons, List.map_nil, List.length_cons, List.length_nil, List.replicate, Nat.reduceAdd, Nat.reduceSub, List.cons_append, List.nil_append, List.append_nil, List.set_cons_zero, List.set_cons_succ, List.getElem?_cons_zero, List.getElem?_cons_succ, dXf, hdOff]
    exact ⟨⟨trivial, trivial, trivial, trivial⟩, x, rfl, by decide, hq⟩
  · refine ⟨false, T.m_NB, fun z => (by cases z), fun _ => ⟨true, T.m_NN, fun _ a dd => ?_, fun z => nomatch z⟩⟩
    simp only [dSeq, dNext, dIfS, dTest, dOp, dVar, dC, dRet, dRetN, dGet, dAnd, dOr, dNot, dAndV, dOrV, dNotV, dIf, dNil, dCons, dTup, dLst, dCB, dM0, dM1, dDrop, dAsg, dgName, dPar, dCal, dChain, dRaise, dFor, diSeq, items, diRange1, diRange2, dLc, dYes, dgTup, dgCons, dgNil, dSl, dPart, dNoPart, dNeg, dPenC, dPenA, dPenL, dPutA, dPutL, startD, List.map_cons, List.map_nil, List.length_cons, List.length_nil, List.replicate, Nat.reduceAdd, Nat.reduceSub, List.cons_append, List.nil_append, List.append_nil, List.set_cons_zero, List.set_cons_succ, List.getElem?_cons_zero, List.getElem?_cons_succ, dXf, hdOff]
    exact ⟨⟨trivial, trivial, trivial, trivial⟩, x, rfl, by decide, hq⟩
/-! ### numbers of letters -/
theorem upLet {c : Nat} (h : isLet c = true) : ∃ i, i < 26 ∧ up1 c = 65 + i := by
  unfold isLet at h
  simp only [Bool.or_eq_true, Bool.and_eq_true, decide_eq_true_eq] at h
  unfold up1
  rcases h with ⟨h1, h2⟩ | ⟨h1, h2⟩
  · rw [if_pos ⟨h1, h2⟩]
    exact ⟨c - 97, by omega, by omega⟩
  · rw [if_neg (by omega)]
    exact ⟨c - 65, by omega, by omega⟩
theorem isLet_small {c : Nat} (h : isLet c = true) : c < 128 := by
  unfold isLet at h
  simp only [Bool.or_eq_true, Bool.and_eq_true, decide_eq_true_eq] at h
  omega
theorem occ26 : ∀ i : Nat, i < 26 → Builtin.Str.occurrences (DL.S LET) (DL.S [65 + i]) 0 (DL.S LET).length 1 = [i] := by decide +kernel
theorem numU_snoc (l : List Nat) (c : Nat) : numU (l ++ [c]) = numU l * 26 + (up1 c - 65) + 1 := by
  unfold numU
  rw [List.foldl_append]
  rfl
theorem lc_letters : ∀ (l : List Nat) (acc : List D) (x y z : Option D) (n : Nat) (q : List D → Nat → Prop), acc.length + l.length ≤ 100000 → q (acc ++ l.map fun c => .bl (isLet c)) n →
    dLcL (dgName 1) dYes (dCal 1 s_is_letter (dCons (dVar 1) dNil)) [1] (l.map fun c => .str [c]) acc [x, y, z] n q
  | [], acc, x, y, z, n, q, _, h => by
    simp only [List.map_nil, List.append_nil] at h
    exact h
  | c :: l, acc, x, y, z, n, q, hl, h => by
    simp only [List.map_cons, dLcL]
    simp only [List.length_cons] at hl
    refine ⟨by omega, ?_⟩
    simp only [dSeq, dNext, dIfS, dTest, dOp, dVar, dC, dRet, dRetN, dGet, dAnd, dOr, dNot, dAndV, dOrV, dNotV, dIf, dNil, dCons, dTup, dLst, dCB, dM0, dM1, dDrop, dAsg, dgName, dPar, dCal, dChain, dRaise, dFor, diSeq, items, diRange1, diRange2, dLc, dYes, dgTup, dgCons, dgNil, dSl, dPart, dNoPart, dNeg, dPenC, dPenA, dPenL, dPutA, dPutL, startD, List.map_cons, List.map_nil, List.length_cons, List.length_nil, List.replicate, Nat.reduceAdd, Nat.reduceSub, List.cons_append, List.nil_append, List.append_nil, List.set_cons_zero, List.set_cons_succ, List.getElem?_cons_zero, List.getElem?_cons_succ, wipeD]
    refine ⟨trivial, c, rfl, ?_⟩
    refine lc_letters l _ _ _ _ n q (by simp only [List.length_append, List.length_cons, List.length_nil]; omega) ?_
    rw [List.append_assoc]
    exact h
theorem all_is (l : List Nat) : (l.map fun c => isLet c).all id = l.all isLet := by
  rw [List.all_map]
  rfl
theorem p_column_number (ds : List D) (n : Nat) (q : D → Nat → Prop) (e : DY) (hl : ds.length = 1) (h : s_column_number ds n q e) : t_column_number K A cs { nx := fun _ n' => q .non n', rt := q, ex := fun _ => e } (startD N_column_number ds) n := by
  obtain ⟨l, rfl, hlen, h1, h2⟩ := h
  have loop : ∀ (r p : List Nat) (x : Option D), l = p ++ r → l.all isLet = true → colOk l = true → dForL (dgName 1) (l_column_number_1 K A cs) (r.map fun c => .str [c]) { nx := fun δ n' => (dRet (dVar 2)) { nx := fun _ n' => q .non n', rt := q, ex := fun _ => e } δ n', rt := q, ex := fun _ => e } [some (.str l), x, some (.int (numU p : Nat))] n := by
    intro r
    induction r with
    | nil =>
      intro p x he ha hc
      rw [List.append_nil] at he
      subst he
      exact h1 hc
    | cons c r ih =>
      intro p x he ha hc
      have hcl : isLet c = true := by
        rw [he, List.all_append, List.all_cons, Bool.and_eq_true, Bool.and_eq_true] at ha
        exact ha.2.1
      obtain ⟨i, hi, hu⟩ := upLet hcl
      simp only [List.map_cons, dForL]
      unfold l_column_number_1
      simp only [dSeq, dNext, dIfS, dTest, dOp, dVar, dC, dRet, dRetN, dGet, dAnd, dOr, dNot, dAndV, dOrV, dNotV, dIf, dNil, dCons, dTup, dLst, dCB, dM0, dM1, dDrop, dAsg, dgName, dPar, dCal, dChain, dRaise, dFor, diSeq, items, diRange1, diRange2, dLc, dYes, dgTup, dgCons, dgNil, dSl, dPart, dNoPart, dNeg, dPenC, dPenA, dPenL, dPutA, dPutL, startD, List.map_cons, List.map_nil, List.length_cons, List.length_nil, List.replicate, Nat.reduceAdd, Nat.reduceSub, List.cons_append, List.nil_append, List.append_nil, List.set_cons_zero, List.set_cons_succ, List.getElem?_cons_zero, List.getElem?_cons_succ, gMul, gI, gAdd, gUpper, gIndex]
      refine ⟨.inl (.inr ⟨by decide, by decide⟩), by decide, ?_, i, [], ?_, ?_⟩
      · simp [isLet_small hcl]
      · rw [hu]
        exact occ26 i hi
      · have e2 : (numU p : Int) * 26 + (i : Int) + 1 = ((numU (p ++ [c]) : Nat) : Int) := by
          rw [numU_snoc, hu]
          omega
        rw [e2]
        exact ih (p ++ [c]) _ (by rw [he, List.append_assoc]; rfl) ha hc
  unfold t_column_number
  simp only [dSeq, dNext, dIfS, dTest, dOp, dVar, dC, dRet, dRetN, dGet, dAnd, dOr, dNot, dAndV, dOrV, dNotV, dIf, dNil, dCons, dTup, dLst, dCB, dM0, dM1, dDrop, dAsg, dgName, dPar, dCal, dChain, dRaise, dFor, diSeq, items, diRange1, diRange2, dLc, dYes, dgTup, dgCons, dgNil, dSl, dPart, dNoPart, dNeg, dPenC, dPenA, dPenL, dPutA, dPutL, startD, List.map_cons, List.map_nil, List.length_cons, List.length_nil, List.replicate, Nat.reduceAdd, Nat.reduceSub, List.cons_append, List.nil_append, List.append_nil, List.set_cons_zero, List.set_cons_succ, List.getElem?_cons_zero, List.getElem?_cons_succ, gLe, gOrd, gLen]
  have c1 : ((1 : Int) ≤ ((l.length : Nat) : Int)) ↔ 1 ≤ l.length := by omega
  have c2 : (((l.length : Nat) : Int) ≤ (3 : Int)) ↔ l.length ≤ 3 := by omega
  refine ⟨by omega, ?_⟩
  by_cases a : 1 ≤ l.length
  · simp only [c1, a, decide_true]
    by_cases b : l.length ≤ 3
    · simp only [c2, b, decide_true, Bool.not_true]
      refine lc_letters l [] _ _ _ n _ (by simp only [List.length_nil]; omega) ?_
      rw [List.nil_append, show (l.map fun c => D.bl (isLet c)) = (l.map isLet).map D.bl from (List.map_map ..).symm]
      simp only [gAll, blsD_map]
      rw [show (l.map isLet).all id = l.all isLet from all_is l]
      cases hall : l.all isLet with
      | true =>
        simp only [Bool.not_true]
        exact loop l [] none rfl hall (by unfold colOk; simp [a, b, hall])
      | false =>
        simp only [Bool.not_false]
        exact h2 (by unfold colOk; simp [hall])
    · simp only [c2, b, decide_false, Bool.not_false]
      exact h2 (by unfold colOk; simp [b])
  · simp only [c1, a, decide_false, Bool.not_false]
    exact h2 (by unfold colOk; simp [a])
end
end K15

set_option Elab.async false
set_option linter.all false
set_option maxRecDepth 100000
set_option maxHeartbeats 8000000
set_option autoImplicit false
namespace K15
open PySem PySem.Spec PyProof.Rows L2 DL
section
variable {P : Program} {K : PySem.W.Frag} {mg : Str → Option Value} {A : Ad} {cs : List Int}
def draw6 (cs : List Int) : DTS :=
    (dSeq (dIfS (dAnd (dTest (dOp gLt (dVar 3) (dCB gLen (dCons (dPenC cs (dVar 0)) dNil)))) (dTest (dOp gGe (dVar 4) (dOp gPow (dC (.int 10)) (dC (.int 18)))))) (dSeq (dPutL (dOp gDiv (dOp gSub (dVar 4) (dOp gPow (dC (.int 10)) (dC (.int 18)))) (dVar 1)) (dVar 0))
    (dRet (dOp gMod (dCB gInt (dCons (dOp gSub (dVar 4) (dOp gPow (dC (.int 10)) (dC (.int 18)))) dNil)) (dVar 1)))) dNext)
    (dSeq (dAsg (dOp gAdd (dOp gMul (dOp gMod (dCB gInt (dCons (dVar 4) dNil)) (dC (.int 2147481997))) (dC (.int 45191))) (dOp gMul (dOp gMul (dC (.int 35407)) (dVar 3)) (dVar 3))) (dgName 5))
    (dSeq (dAsg (dOp gMod (dCB gInt (dCons (dOp gAdd (dOp gAdd (dVar 5) (dOp gMul (dC (.int 131)) (dVar 3))) (dC (.int 43))) dNil)) (dC (.int 2147482063))) (dgName 5))
    (dSeq (dAsg (dOp gMod (dCB gInt (dCons (dOp gAdd (dOp gMul (dVar 5) (dOp gAdd (dVar 5) (dC (.int 71069)))) (dOp gMul (dC (.int 11)) (dVar 3))) dNil)) (dC (.int 2147482121))) (dgName 5))
    (dRet (dOp gMod (dCB gInt (dCons (dOp gDiv (dOp gMod (dCB gInt (dCons (dOp gAdd (dOp gMul (dVar 5) (dVar 5)) (dOp gMul (dC (.int 107)) (dVar 5))) dNil)) (dC (.int 2147482223))) (dC (.int 32))) dNil)) (dVar 1)))))))
def draw7 : DTS :=
    (dSeq (dAsg (dOp gAdd (dOp gMul (dOp gMod (dCB gInt (dCons (dVar 4) dNil)) (dC (.int 2147481997))) (dC (.int 45191))) (dOp gMul (dOp gMul (dC (.int 35407)) (dVar 3)) (dVar 3))) (dgName 5))
    (dSeq (dAsg (dOp gMod (dCB gInt (dCons (dOp gAdd (dOp gAdd (dVar 5) (dOp gMul (dC (.int 131)) (dVar 3))) (dC (.int 43))) dNil)) (dC (.int 2147482063))) (dgName 5))
    (dSeq (dAsg (dOp gMod (dCB gInt (dCons (dOp gAdd (dOp gMul (dVar 5) (dOp gAdd (dVar 5) (dC (.int 71069)))) (dOp gMul (dC (.int 11)) (dVar 3))) dNil)) (dC (.int 2147482121))) (dgName 5))
    (dRet (dOp gMod (dCB gInt (dCons (dOp gDiv (dOp gMod (dCB gInt (dCons (dOp gAdd (dOp gMul (dVar 5) (dVar 5)) (dOp gMul (dC (.int 107)) (dVar 5))) dNil)) (dC (.int 2147482223))) (dC (.int 32))) dNil)) (dVar 1))))))
theorem draw_split : t__law_draw K A cs =
  (dSeq (dIfS (dTest (dOp gGe (dPenL (dVar 0)) (dVar 1))) (dSeq (dAsg (dOp gMod (dCB gInt (dCons (dPenL (dVar 0)) dNil)) (dVar 1)) (dgName 2))
    (dSeq (dPutL (dOp gDiv (dPenL (dVar 0)) (dVar 1)) (dVar 0))
    (dRet (dVar 2)))) dNext)
    (dSeq (dAsg (dPenA (dVar 0)) (dgName 3))
    (dSeq (dPutA (dOp gAdd (dVar 3) (dC (.int 1))) (dVar 0))
    (dSeq (dAsg (dOp gAdd (dOp gMul (dC (.int 47)) (dVar 3)) (dC (.int 109))) (dgName 4))
    (dSeq (dIfS (dTest (dOp gNe (dPenC cs (dVar 0)) (dLst dNil))) (dAsg (dOp gIx (dPenC cs (dVar 0)) (dOp gMod (dCB gInt (dCons (dVar 3) dNil)) (dCB gLen (dCons (dPenC cs (dVar 0)) dNil)))) (dgName 4)) dNext)
    (draw6 cs)))))) := rfl
theorem draw6_split : draw6 cs =
    (dSeq (dIfS (dAnd (dTest (dOp gLt (dVar 3) (dCB gLen (dCons (dPenC cs (dVar 0)) dNil)))) (dTest (dOp gGe (dVar 4) (dOp gPow (dC (.int 10)) (dC (.int 18)))))) (dSeq (dPutL (dOp gDiv (dOp gSub (dVar 4) (dOp gPow (dC (.int 10)) (dC (.int 18)))) (dVar 1)) (dVar 0))
    (dRet (dOp gMod (dCB gInt (dCons (dOp gSub (dVar 4) (dOp gPow (dC (.int 10)) (dC (.int 18)))) dNil)) (dVar 1)))) dNext)
    draw7) := rfl
theorem py_ints : ∀ ns : List Int, pyL (ns.map D.int) = some (ns.map PyData.int)
  | [] => rfl
  | n :: ns => by
    simp only [List.map_cons, pyL, py, py_ints ns]
theorem lay_ints : ∀ ns : List Int, PyData.canLayAll0 (ns.map PyData.int) = true ∧ PyData.depthAll (ns.map PyData.int) = 0
  | [] => ⟨rfl, rfl⟩
  | n :: ns => by
    obtain ⟨h1, h2⟩ := lay_ints ns
    simp only [List.map_cons, PyData.canLayAll0, PyData.canLay0, h1, PyData.depthAll, PyData.depth, h2, Bool.and_self, Nat.max_self, and_self]
theorem shaped_int (ns : List Int) : SeqAt.shaped (.list (ns.map PyData.int)) = true := by
  obtain ⟨h1, h2⟩ := lay_ints ns
  simp only [SeqAt.shaped, PyData.canLay0, h1, PyData.depth, h2, Bool.true_and]
  rfl
theorem ne_nil (ns : List Int) (k : Bool → Prop) (h : k (decide (ns = []))) : eqD (.lst (ns.map D.int)) (.lst []) k := by
  refine ⟨.list (ns.map PyData.int), .list [], by simp only [py, py_ints, Option.map_some], rfl, shaped_int ns, shaped_int [], ?_⟩
  cases ns with
  | nil => exact h
  | cons n ns => exact h
theorem bound_mod {x m : Int} (h : 0 < m) : 0 ≤ x % m ∧ x % m < m := ⟨Int.emod_nonneg _ (by omega), Int.emod_lt_of_pos _ h⟩
theorem mul_l {i j : Int} (h : -(2 ^ 64) < i ∧ i < 2 ^ 64) : DL.MulOk i j := .inl (.inl h)
theorem mul_r {i j : Int} (h : -(2 ^ 64) < j ∧ j < 2 ^ 64) : DL.MulOk i j := .inl (.inr h)
theorem p_draw7 {m a z : Int} {n : Nat} {x y : Option D} {q : D → Nat → Prop} {e : DX} (hm : 0 < m) (ha : 0 ≤ a ∧ a < 1000000) (h : ∀ k : Int, 0 ≤ k → k < m → q (.int k) n) : draw7 { nx := fun _ n' => q .non n', rt := q, ex := e } [some .pen, some (.int m), x, some (.int a), some (.int z), y] n := by
  unfold draw7
  simp only [dSeq, dNext, dIfS, dTest, dOp, dVar, dC, dRet, dRetN, dGet, dAnd, dOr, dNot, dAndV, dOrV, dNotV, dIf, dNil, dCons, dTup, dLst, dCB, dM0, dM1, dDrop, dAsg, dgName, dPar, dCal, dChain, dRaise, dFor, diSeq, items, diRange1, diRange2, dLc, dYes, dgTup, dgCons, dgNil, dSl, dPart, dNoPart, dNeg, dPenC, dPenA, dPenL, dPutA, dPutL, startD, List.map_cons, List.map_nil, List.length_cons, List.length_nil, List.replicate, Nat.reduceAdd, Nat.reduceSub, List.cons_append, List.nil_append, List.append_nil, List.set_cons_zero, List.set_cons_succ, List.getElem?_cons_zero, List.getElem?_cons_succ, gInt, gMod, gI, gAdd, gMul, gDiv]
  refine ⟨by decide, mul_r (by decide), mul_l (by decide), mul_r (by omega), mul_l (by decide), by decide, ?_⟩
  generalize hx1 : (z % 2147481997 * 45191 + 35407 * a * a + 131 * a + 43) % 2147482063 = x1
  have b1 : 0 ≤ x1 ∧ x1 < 2147482063 := by rw [← hx1]; exact bound_mod (by decide)
  refine ⟨mul_l (by omega), mul_l (by decide), by decide, ?_⟩
  generalize hx2 : (x1 * (x1 + 71069) + 11 * a) % 2147482121 = x2
  have b2 : 0 ≤ x2 ∧ x2 < 2147482121 := by rw [← hx2]; exact bound_mod (by decide)
  refine ⟨mul_l (by omega), mul_l (by decide), by decide, ⟨by decide, .inl (by decide)⟩, hm, ?_⟩
  exact h _ (bound_mod hm).1 (bound_mod hm).2
theorem p_draw6 {m a z : Int} {n : Nat} {x y : Option D} {q : D → Nat → Prop} {e : DX} (hm : 0 < m) (hm2 : m < 1073741824) (ha : 0 ≤ a ∧ a < 1000000) (h : ∀ k : Int, 0 ≤ k → k < m → q (.int k) n) : draw6 cs { nx := fun _ n' => q .non n', rt := q, ex := e } [some .pen, some (.int m), x, some (.int a), some (.int z), y] n := by
  rw [draw6_split]
  simp only [dSeq, dNext, dIfS, dTest, dOp, dVar, dC, dRet, dRetN, dGet, dAnd, dOr, dNot, dAndV, dOrV, dNotV, dIf, dNil, dCons, dTup, dLst, dCB, dM0, dM1, dDrop, dAsg, dgName, dPar, dCal, dChain, dRaise, dFor, diSeq, items, diRange1, diRange2, dLc, dYes, dgTup, dgCons, dgNil, dSl, dPart, dNoPart, dNeg, dPenC, dPenA, dPenL, dPutA, dPutL, startD, List.map_cons, List.map_nil, List.length_cons, List.length_nil, List.replicate, Nat.reduceAdd, Nat.reduceSub, List.cons_append, List.nil_append, List.append_nil, List.set_cons_zero, List.set_cons_succ, List.getElem?_cons_zero, List.getElem?_cons_succ, gLt, gOrd, gLen, List.length_map]
  intro hc
  by_cases c : a < (cs.length : Int)
  · simp only [c, decide_true, gPow, gI, gGe, gOrd]
    refine ⟨⟨by decide, by decide, by decide⟩, ?_⟩
    by_cases d : (10 : Int) ^ Int.toNat 18 ≤ z
    · simp only [d, decide_true, DL.gSub, gI0, gDiv, gI, gInt, gMod]
      refine ⟨⟨by decide, by decide, by decide⟩, ⟨hm, .inl hm2⟩, Int.ediv_nonneg (by omega) (by omega), ⟨by decide, by decide, by decide⟩, hm, ?_⟩
      exact h _ (bound_mod hm).1 (bound_mod hm).2
    · simp only [d, decide_false]
      exact p_draw7 hm ha h
  · simp only [c, decide_false]
    exact p_draw7 hm ha h
theorem p__law_draw (ds : List D) (n : Nat) (q : D → Nat → Prop) (e : DY) (hl : ds.length = 2) (h : s__law_draw ds n q e) : t__law_draw K A cs { nx := fun _ n' => q .non n', rt := q, ex := fun _ => e } (startD N__law_draw ds) n := by
  obtain ⟨m, rfl, hm, hm2, hn, h⟩ := h
  rw [draw_split]
  simp only [dSeq, dNext, dIfS, dTest, dOp, dVar, dC, dRet, dRetN, dGet, dAnd, dOr, dNot, dAndV, dOrV, dNotV, dIf, dNil, dCons, dTup, dLst, dCB, dM0, dM1, dDrop, dAsg, dgName, dPar, dCal, dChain, dRaise, dFor, diSeq, items, diRange1, diRange2, dLc, dYes, dgTup, dgCons, dgNil, dSl, dPart, dNoPart, dNeg, dPenC, dPenA, dPenL, dPutA, dPutL, startD, List.map_cons, List.map_nil, List.length_cons, List.length_nil, List.replicate, Nat.reduceAdd, Nat.reduceSub, List.cons_append, List.nil_append, List.append_nil, List.set_cons_zero, List.set_cons_succ, List.getElem?_cons_zero, List.getElem?_cons_succ, gGe, gOrd]
  intro l hl0
  by_cases c : m ≤ l
  · simp only [c, decide_true, gInt, gMod, gI, gDiv]
    intro l1 hl1
    refine ⟨hm, fun l2 hl2 => ⟨⟨hm, .inl hm2⟩, Int.ediv_nonneg hl2 (by omega), ?_⟩⟩
    exact h _ _ (Int.emod_nonneg _ (by omega)) (Int.emod_lt_of_pos _ hm) (Nat.le_refl _) (Nat.le_succ _)
  · simp only [c, decide_false]
    intro a ha0 ha1
    simp only [gAdd, gMul, gI]
    refine ⟨⟨by omega, by omega⟩, mul_l (by decide), ?_⟩
    simp only [gNe]
    intro hc
    refine ⟨by decide, ne_nil cs _ ?_⟩
    have fin : ∀ (z : Int), draw6 cs { nx := fun _ n' => q .non n', rt := q, ex := fun _ => e } [some .pen, some (.int m), none, some (.int a), some (.int z), none] (n + 1) := fun z =>
      p_draw6 hm hm2 ⟨ha0, by omega⟩ fun k h1 h2 => h k _ h1 h2 (Nat.le_succ _) (Nat.le_refl _)
    by_cases d : cs = []
    · simp only [d, decide_true, Bool.not_true]
      rw [← d]
      exact fin _
    · simp only [d, decide_false, Bool.not_false, gInt, gLen, gMod, gI, gIx, List.length_map]
      have hpos : 0 < cs.length := List.length_pos_iff.mpr d
      have hp : (0 : Int) < (cs.length : Int) := by omega
      have hb := bound_mod (x := a) hp
      intro _ _
      obtain ⟨j, hj⟩ : ∃ j : Nat, a % (cs.length : Int) = j := ⟨(a % (cs.length : Int)).toNat, by omega⟩
      refine ⟨hp, .int (cs[j]'(by omega)), ?_, fin _⟩
      rw [hj]
      unfold L2.atI L2.ixN
      rw [if_pos (by omega), if_pos (by rw [List.length_map]; omega)]
      simp
end
end K15

set_option Elab.async false
set_option linter.all false
set_option maxRecDepth 100000
set_option maxHeartbeats 8000000
set_option autoImplicit false
namespace K15
open PySem PySem.Spec PyProof.Rows L2 DL
section
variable {P : Program} {K : PySem.W.Frag} {mg : Str → Option Value} {A : Ad} {cs : List Int}
theorem atI_nat {α : Type} {xs : List α} {j : Nat} (h : j < xs.length) : L2.atI xs (j : Int) = some xs[j] := by
  unfold L2.atI L2.ixN
  rw [if_pos (by omega), if_pos (by omega)]
  simp [h]
theorem p__law_pick (ds : List D) (n : Nat) (q : D → Nat → Prop) (e : DY) (hl : ds.length = 2) (h : s__law_pick ds n q e) : t__law_pick K A cs { nx := fun _ n' => q .non n', rt := q, ex := fun _ => e } (startD N__law_pick ds) n := by
  obtain ⟨xs, rfl, h0, h1, hn, h⟩ := h
  unfold t__law_pick
  simp only [dSeq, dNext, dIfS, dTest, dOp, dVar, dC, dRet, dRetN, dGet, dAnd, dOr, dNot, dAndV, dOrV, dNotV, dIf, dNil, dCons, dTup, dLst, dCB, dM0, dM1, dDrop, dAsg, dgName, dPar, dCal, dChain, dRaise, dFor, diSeq, items, diRange1, diRange2, dLc, dYes, dgTup, dgCons, dgNil, dSl, dPart, dNoPart, dNeg, dPenC, dPenA, dPenL, dPutA, dPutL, startD, List.map_cons, List.map_nil, List.length_cons, List.length_nil, List.replicate, Nat.reduceAdd, Nat.reduceSub, List.cons_append, List.nil_append, List.append_nil, List.set_cons_zero, List.set_cons_succ, List.getElem?_cons_zero, List.getElem?_cons_succ, gLen]
  refine ⟨trivial, _, rfl, by omega, by omega, hn, fun k n' hk hk2 hn1 hn2 => ?_⟩
  obtain ⟨j, rfl⟩ : ∃ j : Nat, k = j := ⟨k.toNat, by omega⟩
  exact ⟨_, atI_nat (by omega), h _ _ (List.getElem_mem _) hn1 hn2⟩
theorem p__law_column_drawn (ds : List D) (n : Nat) (q : D → Nat → Prop) (e : DY) (hl : ds.length = 1) (h : s__law_column_drawn ds n q e) : t__law_column_drawn K A cs { nx := fun _ n' => q .non n', rt := q, ex := fun _ => e } (startD N__law_column_drawn ds) n := by
  obtain ⟨rfl, hn, h⟩ := h
  unfold t__law_column_drawn
  simp only [dSeq, dNext, dIfS, dTest, dOp, dVar, dC, dRet, dRetN, dGet, dAnd, dOr, dNot, dAndV, dOrV, dNotV, dIf, dNil, dCons, dTup, dLst, dCB, dM0, dM1, dDrop, dAsg, dgName, dPar, dCal, dChain, dRaise, dFor, diSeq, items, diRange1, diRange2, dLc, dYes, dgTup, dgCons, dgNil, dSl, dPart, dNoPart, dNeg, dPenC, dPenA, dPenL, dPutA, dPutL, startD, List.map_cons, List.map_nil, List.length_cons, List.length_nil, List.replicate, Nat.reduceAdd, Nat.reduceSub, List.cons_append, List.nil_append, List.append_nil, List.set_cons_zero, List.set_cons_succ, List.getElem?_cons_zero, List.getElem?_cons_succ]
  refine ⟨trivial, 2, rfl, by decide, by decide, by omega, fun k n1 hk hk2 hn1 hn2 => ?_⟩
  simp only [gEq, eqD, scEq]
  by_cases c : k = 0
  · simp only [c, decide_true]
    refine ⟨trivial, 18278, rfl, by decide, by decide, by omega, fun k n2 hk hk2 hn3 hn4 => ?_⟩
    simp only [gAdd]
    obtain ⟨j, rfl⟩ : ∃ j : Nat, k = j := ⟨k.toNat, by omega⟩
    have := h (1 + j) n2 (by omega) (by omega) (by omega) (by omega)
    rw [show ((1 + j : Nat) : Int) = 1 + (j : Int) from by omega] at this
    exact this
  · simp only [c, decide_false]
    refine ⟨by decide, trivial, _, rfl, by decide, by decide, by omega, fun x n2 hx hn3 hn4 => ?_⟩
    refine ⟨trivial, 5, rfl, by decide, by decide, by omega, fun k2 n3 hk hk2 hn5 hn6 => ?_⟩
    obtain ⟨v, rfl⟩ : ∃ v : Int, x = .int v := by
      simp only [List.mem_cons, List.not_mem_nil, or_false] at hx
      rcases hx with rfl | rfl | rfl | rfl | rfl | rfl | rfl <;> exact ⟨_, rfl⟩
    simp only [gAdd, DL.gSub, gI0, gMin, gMax]
    generalize hv : v + k2 - 2 = w
    obtain ⟨j, hj⟩ : ∃ j : Nat, (if (if w < 18278 then w else 18278) > 1 then (if w < 18278 then w else 18278) else (1 : Int)) = j ∧ 1 ≤ j ∧ j ≤ 18278 := by
      refine ⟨(if (if w < 18278 then w else 18278) > 1 then (if w < 18278 then w else 18278) else (1 : Int)).toNat, ?_⟩
      split <;> split <;> omega
    rw [hj.1]
    exact h j n3 hj.2.1 hj.2.2 (by omega) (by omega)
theorem p__law_column (ds : List D) (n : Nat) (q : D → Nat → Prop) (e : DY) (hl : ds.length = 1) (h : s__law_column ds n q e) : t__law_column K A cs { nx := fun _ n' => q .non n', rt := q, ex := fun _ => e } (startD N__law_column ds) n := by
  obtain ⟨l, rfl, hlen, ha, h⟩ := h
  have loop : ∀ (r p : List Nat) (x : Option D), l = p ++ r → dForL (dgName 2) (l__law_column_1 K A cs) ((r.map up1).map fun c => .str [c]) { nx := fun δ n' => (dRet (dVar 1)) { nx := fun _ n' => q .non n', rt := q, ex := fun _ => e } δ n', rt := q, ex := fun _ => e } [some (.str l), some (.int (numU p : Nat)), x] n := by
    intro r
    induction r with
    | nil =>
      intro p x he
      rw [List.append_nil] at he
      subst he
      exact h
    | cons c r ih =>
      intro p x he
      have hcl : isLet c = true := by
        rw [he, List.all_append, List.all_cons, Bool.and_eq_true, Bool.and_eq_true] at ha
        exact ha.2.1
      obtain ⟨i, hi, hu⟩ := upLet hcl
      simp only [List.map_cons, dForL]
      unfold l__law_column_1
      simp only [dSeq, dNext, dIfS, dTest, dOp, dVar, dC, dRet, dRetN, dGet, dAnd, dOr, dNot, dAndV, dOrV, dNotV, dIf, dNil, dCons, dTup, dLst, dCB, dM0, dM1, dDrop, dAsg, dgName, dPar, dCal, dChain, dRaise, dFor, diSeq, items, diRange1, diRange2, dLc, dYes, dgTup, dgCons, dgNil, dSl, dPart, dNoPart, dNeg, dPenC, dPenA, dPenL, dPutA, dPutL, startD, List.map_cons, List.map_nil, List.length_cons, List.length_nil, List.replicate, Nat.reduceAdd, Nat.reduceSub, List.cons_append, List.nil_append, List.append_nil, List.set_cons_zero, List.set_cons_succ, List.getElem?_cons_zero, List.getElem?_cons_succ, gMul, gI, gAdd, gIndex]
      refine ⟨.inl (.inr ⟨by decide, by decide⟩), trivial, rfl, i, [], ?_, ?_⟩
      · rw [hu]
        exact occ26 i hi
      · have e2 : (numU p : Int) * 26 + 1 + (i : Int) = ((numU (p ++ [c]) : Nat) : Int) := by
          rw [numU_snoc, hu]
          omega
        rw [e2]
        exact ih (p ++ [c]) _ (by rw [he, List.append_assoc]; rfl)
  unfold t__law_column
  simp only [dSeq, dNext, dIfS, dTest, dOp, dVar, dC, dRet, dRetN, dGet, dAnd, dOr, dNot, dAndV, dOrV, dNotV, dIf, dNil, dCons, dTup, dLst, dCB, dM0, dM1, dDrop, dAsg, dgName, dPar, dCal, dChain, dRaise, dFor, diSeq, items, diRange1, diRange2, dLc, dYes, dgTup, dgCons, dgNil, dSl, dPart, dNoPart, dNeg, dPenC, dPenA, dPenL, dPutA, dPutL, startD, List.map_cons, List.map_nil, List.length_cons, List.length_nil, List.replicate, Nat.reduceAdd, Nat.reduceSub, List.cons_append, List.nil_append, List.append_nil, List.set_cons_zero, List.set_cons_succ, List.getElem?_cons_zero, List.getElem?_cons_succ, gUpper]
  refine ⟨by omega, ?_, loop l [] none rfl⟩
  rw [List.all_eq_true] at ha ⊢
  exact fun c hc => decide_eq_true (isLet_small (ha c hc))
theorem inLet : ∀ c, c < 128 → decide (up1 c ∈ LET) = isLet c := by decide +kernel
theorem lc_isletters : ∀ (l : List Nat) (acc : List D) (x y : Option D) (n : Nat) (q : List D → Nat → Prop), l.all (· < 128) = true → acc.length + l.length ≤ 100000 → q (acc ++ l.map fun c => .bl (isLet c)) n →
    dLcL (dgName 1) dYes (dOp gIn (dM0 gUpper (dVar 1)) (dCal 0 s__law_signs dNil)) [1] (l.map fun c => .str [c]) acc [x, y] n q
  | [], acc, x, y, n, q, _, _, h => by
    simp only [List.map_nil, List.append_nil] at h
    exact h
  | c :: l, acc, x, y, n, q, ha, hl, h => by
    simp only [List.map_cons, dLcL]
    simp only [List.length_cons] at hl
    rw [List.all_cons, Bool.and_eq_true] at ha
    have hc : c < 128 := of_decide_eq_true ha.1
    refine ⟨by omega, ?_⟩
    simp only [dSeq, dNext, dIfS, dTest, dOp, dVar, dC, dRet, dRetN, dGet, dAnd, dOr, dNot, dAndV, dOrV, dNotV, dIf, dNil, dCons, dTup, dLst, dCB, dM0, dM1, dDrop, dAsg, dgName, dPar, dCal, dChain, dRaise, dFor, diSeq, items, diRange1, diRange2, dLc, dYes, dgTup, dgCons, dgNil, dSl, dPart, dNoPart, dNeg, dPenC, dPenA, dPenL, dPutA, dPutL, startD, List.map_cons, List.map_nil, List.length_cons, List.length_nil, List.replicate, Nat.reduceAdd, Nat.reduceSub, List.cons_append, List.nil_append, List.append_nil, List.set_cons_zero, List.set_cons_succ, List.getElem?_cons_zero, List.getElem?_cons_succ, wipeD, gUpper, gIn, inD]
    refine ⟨by decide, by simp [hc], trivial, rfl, ?_⟩
    dsimp only
    rw [inLet c hc]
    refine lc_isletters l _ _ _ n q ha.2 (by simp only [List.length_append, List.length_cons, List.length_nil]; omega) ?_
    rw [List.append_assoc]
    exact h
theorem any_not : ∀ l : List Nat, (!((l.map fun c => D.bl (isLet c)).any fun y => eqF y (.bl false))) = l.all isLet
  | [] => rfl
  | c :: l => by
    rw [List.map_cons, List.any_cons, List.all_cons, Bool.not_or, any_not l]
    congr 1
    cases isLet c <;> rfl
theorem flat_bls : ∀ l : List Nat, (l.map fun c => D.bl (isLet c)).all flatD = true
  | [] => rfl
  | c :: l => by
    rw [List.map_cons, List.all_cons, flat_bls l]
    rfl
theorem p__law_is_letters (ds : List D) (n : Nat) (q : D → Nat → Prop) (e : DY) (hl : ds.length = 1) (h : s__law_is_letters ds n q e) : t__law_is_letters K A cs { nx := fun _ n' => q .non n', rt := q, ex := fun _ => e } (startD N__law_is_letters ds) n := by
  obtain ⟨l, rfl, hlen, ha, h⟩ := h
  unfold t__law_is_letters
  simp only [dSeq, dNext, dIfS, dTest, dOp, dVar, dC, dRet, dRetN, dGet, dAnd, dOr, dNot, dAndV, dOrV, dNotV, dIf, dNil, dCons, dTup, dLst, dCB, dM0, dM1, dDrop, dAsg, dgName, dPar, dCal, dChain, dRaise, dFor, diSeq, items, diRange1, diRange2, dLc, dYes, dgTup, dgCons, dgNil, dSl, dPart, dNoPart, dNeg, dPenC, dPenA, dPenL, dPutA, dPutL, startD, List.map_cons, List.map_nil, List.length_cons, List.length_nil, List.replicate, Nat.reduceAdd, Nat.reduceSub, List.cons_append, List.nil_append, List.append_nil, List.set_cons_zero, List.set_cons_succ, List.getElem?_cons_zero, List.getElem?_cons_succ, gList]
  refine ⟨by omega, ?_⟩
  refine lc_isletters l [] _ _ n _ ha (by simp only [List.length_nil]; omega) ?_
  rw [List.nil_append]
  simp only [gNotIn, inD]
  refine ⟨rfl, flat_bls l, ?_⟩
  rw [any_not]
  exact h
theorem up_lo {c : Nat} (h : 65 ≤ c ∧ c ≤ 90) : up1 (lo1 c) = c := by
  unfold lo1
  rw [if_pos h]
  unfold up1
  rw [if_pos (by omega)]
  omega
theorem up_id {c : Nat} (h : 65 ≤ c ∧ c ≤ 90) : up1 c = c := by
  unfold up1
  rw [if_neg (by omega)]
theorem p__law_mixed_case (ds : List D) (n : Nat) (q : D → Nat → Prop) (e : DY) (hl : ds.length = 2) (h : s__law_mixed_case ds n q e) : t__law_mixed_case K A cs { nx := fun _ n' => q .non n', rt := q, ex := fun _ => e } (startD N__law_mixed_case ds) n := by
  obtain ⟨l, rfl, hlen, ha, hn, h⟩ := h
  have loop : ∀ (r fd : List Nat) (x : Option D) (n1 : Nat), l = fd.map up1 ++ r → n ≤ n1 → n1 + r.length ≤ n + l.length → dForL (dgName 3) (l__law_mixed_case_1 K A cs) (r.map fun c => .str [c]) { nx := fun δ n' => (dRet (dVar 2)) { nx := fun _ n' => q .non n', rt := q, ex := fun _ => e } δ n', rt := q, ex := fun _ => e } [some .pen, some (.str l), some (.str fd), x] n1 := by
    intro r
    induction r with
    | nil =>
      intro fd x n1 he h1 h2
      rw [List.append_nil] at he
      exact h fd n1 he.symm h1 (by simp only [List.length_nil] at h2; omega)
    | cons c r ih =>
      intro fd x n1 he h1 h2
      simp only [List.length_cons] at h2
      have hc : 65 ≤ c ∧ c ≤ 90 := by
        rw [he, List.all_append, List.all_cons, Bool.and_eq_true, Bool.and_eq_true, Bool.and_eq_true, decide_eq_true_eq, decide_eq_true_eq] at ha
        exact ha.2.1
      have hf : fd.length ≤ 3 := by
        have := congrArg List.length he
        rw [List.length_append, List.length_map] at this
        omega
      simp only [List.map_cons, dForL]
      unfold l__law_mixed_case_1
      simp only [dSeq, dNext, dIfS, dTest, dOp, dVar, dC, dRet, dRetN, dGet, dAnd, dOr, dNot, dAndV, dOrV, dNotV, dIf, dNil, dCons, dTup, dLst, dCB, dM0, dM1, dDrop, dAsg, dgName, dPar, dCal, dChain, dRaise, dFor, diSeq, items, diRange1, diRange2, dLc, dYes, dgTup, dgCons, dgNil, dSl, dPart, dNoPart, dNeg, dPenC, dPenA, dPenL, dPutA, dPutL, startD, List.map_cons, List.map_nil, List.length_cons, List.length_nil, List.replicate, Nat.reduceAdd, Nat.reduceSub, List.cons_append, List.nil_append, List.append_nil, List.set_cons_zero, List.set_cons_succ, List.getElem?_cons_zero, List.getElem?_cons_succ]
      refine ⟨trivial, 2, rfl, by decide, by decide, by omega, fun k n2 hk hk2 hn1 hn2 => ?_⟩
      simp only [gEq, eqD, scEq]
      by_cases z : k = 0
      · simp only [z, decide_true, gLower, gAdd, List.map_cons, List.map_nil]
        refine ⟨by show 1 ≤ 100000; decide, by simp; omega, by simp only [List.length_cons, List.length_nil]; omega, ?_⟩
        refine ih _ _ n2 ?_ (by omega) (by omega)
        rw [he, List.map_append, List.map_cons, List.map_nil, up_lo hc, List.append_assoc]
        rfl
      · simp only [z, decide_false, gAdd]
        refine ⟨by simp only [List.length_cons, List.length_nil]; omega, ?_⟩
        refine ih _ _ n2 ?_ (by omega) (by omega)
        rw [he, List.map_append, List.map_cons, List.map_nil, up_id hc, List.append_assoc]
        rfl
  unfold t__law_mixed_case
  simp only [dSeq, dNext, dIfS, dTest, dOp, dVar, dC, dRet, dRetN, dGet, dAnd, dOr, dNot, dAndV, dOrV, dNotV, dIf, dNil, dCons, dTup, dLst, dCB, dM0, dM1, dDrop, dAsg, dgName, dPar, dCal, dChain, dRaise, dFor, diSeq, items, diRange1, diRange2, dLc, dYes, dgTup, dgCons, dgNil, dSl, dPart, dNoPart, dNeg, dPenC, dPenA, dPenL, dPutA, dPutL, startD, List.map_cons, List.map_nil, List.length_cons, List.length_nil, List.replicate, Nat.reduceAdd, Nat.reduceSub, List.cons_append, List.nil_append, List.append_nil, List.set_cons_zero, List.set_cons_succ, List.getElem?_cons_zero, List.getElem?_cons_succ]
  exact loop l [] none n rfl (Nat.le_refl _) (Nat.le_refl _)
end
end K15

set_option Elab.async false
set_option linter.all false
set_option maxRecDepth 100000
set_option maxHeartbeats 8000000
set_option autoImplicit false
namespace K15
open PySem PySem.Spec PyProof.Rows L2 DL
/-! ### all columns -/
theorem L1 {c : Nat} (h : 1 ≤ c) (h2 : c ≤ 26) : lettersN c = [65 + (c - 1) % 26] := by
  show lets (2 + 1) c = _
  rw [letsS (by omega), show (c - 1) / 26 = 0 from by omega, lets0]
  rfl
theorem L2' {c : Nat} (h : 27 ≤ c) (h2 : c ≤ 702) : lettersN c = [65 + ((c - 1) / 26 - 1) % 26, 65 + (c - 1) % 26] := by
  show lets (1 + 1 + 1) c = _
  rw [letsS (by omega), letsS (by omega), show ((c - 1) / 26 - 1) / 26 = 0 from by omega, lets0]
  rfl
theorem L3 {c : Nat} (h : 703 ≤ c) (h2 : c ≤ 18278) : lettersN c = [65 + (((c - 1) / 26 - 1) / 26 - 1) % 26, 65 + ((c - 1) / 26 - 1) % 26, 65 + (c - 1) % 26] := by
  show lets (0 + 1 + 1 + 1) c = _
  rw [letsS (by omega), letsS (by omega), letsS (by omega)]
  rfl
structure Facts (c : Nat) : Prop where
  up : ∀ x ∈ lettersN c, 65 ≤ x ∧ x ≤ 90
  len : (lettersN c).length = 1 + (if c > 26 then 1 else 0) + (if c > 702 then 1 else 0)
  num : numU (lettersN c) = c
  nxt : c = 18278 ∨ (lettersN c).getLastD 0 = 90 ∨ lettersN (c + 1) = (lettersN c).dropLast ++ [(lettersN c).getLastD 0 + 1]
theorem facts {c : Nat} (h1 : 1 ≤ c) (h2 : c ≤ 18278) : Facts c := by
  by_cases a : c ≤ 26
  · have e := L1 h1 a
    refine ⟨fun x hx => ?_, ?_, ?_, ?_⟩
    · rw [e, List.mem_singleton] at hx
      omega
    · rw [e, if_neg (by omega), if_neg (by omega)]
      rfl
    · rw [e]
      show 0 * 26 + (up1 (65 + (c - 1) % 26) - 65) + 1 = c
      rw [up_id (by omega)]
      omega
    · by_cases d : c = 26
      · refine .inr (.inl ?_)
        rw [e, d]
        rfl
      · refine .inr (.inr ?_)
        rw [e, L1 (by omega) (by omega)]
        show [65 + (c + 1 - 1) % 26] = [65 + (c - 1) % 26 + 1]
        congr 1
        omega
  · by_cases b : c ≤ 702
    · have e := L2' (by omega) b
      refine ⟨fun x hx => ?_, ?_, ?_, ?_⟩
      · rw [e, List.mem_cons, List.mem_singleton] at hx
        omega
      · rw [e, if_pos (by omega), if_neg (by omega)]
        rfl
      · rw [e]
        show (0 * 26 + (up1 (65 + ((c - 1) / 26 - 1) % 26) - 65) + 1) * 26 + (up1 (65 + (c - 1) % 26) - 65) + 1 = c
        rw [up_id (by omega), up_id (by omega)]
        omega
      · by_cases d : (c - 1) % 26 = 25
        · refine .inr (.inl ?_)
          rw [e]
          show 65 + (c - 1) % 26 = 90
          omega
        · refine .inr (.inr ?_)
          rw [e, L2' (by omega) (by omega)]
          show [65 + ((c + 1 - 1) / 26 - 1) % 26, 65 + (c + 1 - 1) % 26] = [65 + ((c - 1) / 26 - 1) % 26, 65 + (c - 1) % 26 + 1]
          rw [show (c + 1 - 1) / 26 = (c - 1) / 26 from by omega, show (c + 1 - 1) % 26 = (c - 1) % 26 + 1 from by omega]
          rfl
    · have e := L3 (by omega) h2
      refine ⟨fun x hx => ?_, ?_, ?_, ?_⟩
      · rw [e, List.mem_cons, List.mem_cons, List.mem_singleton] at hx
        omega
      · rw [e, if_pos (by omega), if_pos (by omega)]
        rfl
      · rw [e]
        show ((0 * 26 + (up1 (65 + (((c - 1) / 26 - 1) / 26 - 1) % 26) - 65) + 1) * 26 + (up1 (65 + ((c - 1) / 26 - 1) % 26) - 65) + 1) * 26 + (up1 (65 + (c - 1) % 26) - 65) + 1 = c
        rw [up_id (by omega), up_id (by omega), up_id (by omega)]
        omega
      · by_cases d : (c - 1) % 26 = 25
        · refine .inr (.inl ?_)
          rw [e]
          show 65 + (c - 1) % 26 = 90
          omega
        · refine .inr (.inr ?_)
          rw [e, L3 (by omega) (by omega)]
          show [65 + (((c + 1 - 1) / 26 - 1) / 26 - 1) % 26, 65 + ((c + 1 - 1) / 26 - 1) % 26, 65 + (c + 1 - 1) % 26] = [65 + (((c - 1) / 26 - 1) / 26 - 1) % 26, 65 + ((c - 1) / 26 - 1) % 26, 65 + (c - 1) % 26 + 1]
          rw [show (c + 1 - 1) / 26 = (c - 1) / 26 from by omega, show (c + 1 - 1) % 26 = (c - 1) % 26 + 1 from by omega]
          rfl
theorem Facts.ne {c : Nat} (F : Facts c) : lettersN c ≠ [] := fun z => by
  have := F.len
  rw [z] at this
  simp only [List.length_nil] at this
  omega
theorem Facts.le {c : Nat} (F : Facts c) : (lettersN c).length ≤ 3 := by
  have := F.len
  split at this <;> split at this <;> omega
theorem up_let {x : Nat} (h : 65 ≤ up1 x ∧ up1 x ≤ 90) : isLet x = true := by
  unfold up1 at h
  unfold isLet
  simp only [Bool.or_eq_true, Bool.and_eq_true, decide_eq_true_eq]
  split at h <;> omega
theorem cap_let {x : Nat} (h : 65 ≤ x ∧ x ≤ 90) : isLet x = true := up_let (by rw [up_id h]; exact h)
theorem map_up : ∀ {l : List Nat}, (∀ x ∈ l, 65 ≤ x ∧ x ≤ 90) → l.map up1 = l
  | [], _ => rfl
  | x :: l, h => by
    rw [List.map_cons, up_id (h x List.mem_cons_self), map_up fun y hy => h y (List.mem_cons_of_mem _ hy)]
theorem numU_map (l : List Nat) (h : ∀ x ∈ l.map up1, 65 ≤ x ∧ x ≤ 90) : numU l = numU (l.map up1) := by
  have : ∀ (l : List Nat) (a : Nat), (∀ x ∈ l.map up1, 65 ≤ x ∧ x ≤ 90) → l.foldl (fun a c => a * 26 + (up1 c - 65) + 1) a = (l.map up1).foldl (fun a c => a * 26 + (up1 c - 65) + 1) a := by
    intro l
    induction l with
    | nil => intro a _; rfl
    | cons x l ih =>
      intro a h
      rw [List.map_cons, List.foldl_cons, List.foldl_cons, up_id (h (up1 x) (by rw [List.map_cons]; exact List.mem_cons_self))]
      exact ih _ fun y hy => h y (by rw [List.map_cons]; exact List.mem_cons_of_mem _ hy)
  exact this l 0 h
theorem Facts.mixed {c : Nat} (F : Facts c) {l : List Nat} (h : l.map up1 = lettersN c) : colOk l = true ∧ numU l = c ∧ l.length ≤ 3 := by
  have hl : l.length = (lettersN c).length := by rw [← h, List.length_map]
  have hu : ∀ x ∈ l.map up1, 65 ≤ x ∧ x ≤ 90 := by rw [h]; exact F.up
  refine ⟨?_, by rw [numU_map l hu, h, F.num], by rw [hl]; exact F.le⟩
  unfold colOk
  have h0 := List.length_pos_iff.mpr F.ne
  have h3 := F.le
  simp only [Bool.and_eq_true, decide_eq_true_eq, List.all_eq_true]
  exact ⟨⟨by omega, by omega⟩, fun x hx => up_let (hu (up1 x) (List.mem_map_of_mem hx))⟩
theorem last_at {l : List Nat} (h : l ≠ []) : L2.atI l (-1) = some (l.getLastD 0) := by
  have h0 := List.length_pos_iff.mpr h
  unfold L2.atI L2.ixN
  rw [if_neg (by omega), if_pos (by omega)]
  have : (-1 + (l.length : Int)).toNat = l.length - 1 := by omega
  rw [Option.bind_some, this, List.getLastD_eq_getLast?, List.getLast?_eq_getElem?]
  rw [List.getElem?_eq_getElem (by omega)]
  rfl
theorem cut_last {l : List Nat} (h : l ≠ []) : cutL l none (some (-1)) = l.dropLast := by
  have h0 := List.length_pos_iff.mpr h
  unfold cutL HT.sIx
  rw [List.dropLast_eq_take]
  have : (-1 + (l.length : Int)).toNat = l.length - 1 := by omega
  simp [this]
theorem getLast_mem {l : List Nat} (h : l ≠ []) : l.getLastD 0 ∈ l := by
  cases l with
  | nil => exact absurd rfl h
  | cons x l =>
    rw [List.getLastD_eq_getLast?, List.getLast?_eq_getLast (List.cons_ne_nil x l)]
    exact List.getLast_mem _
end K15

set_option Elab.async false
set_option linter.all false
set_option maxRecDepth 100000
set_option maxHeartbeats 8000000
set_option autoImplicit false
namespace K15
open PySem PySem.Spec PyProof.Rows L2 DL
section
variable {P : Program} {K : PySem.W.Frag} {mg : Str → Option Value} {A : Ad} {cs : List Int}
theorem lr5 {c n : Nat} {q : D → Nat → Prop} {e : DY} (h1 : 1 ≤ c) (h2 : c ≤ 18278) (hn : n + 10 < 1000000) (h : ∀ n', n ≤ n' → n' ≤ n + 3 → q (.bl true) n') (x y : Option D) :
    u__law_letters_right_5 K A cs { nx := fun _ n' => q .non n', rt := q, ex := fun _ => e } [some .pen, some (.int c), some (.str (lettersN c)), x, y] n := by
  have F := facts h1 h2
  unfold u__law_letters_right_5
  simp only [dSeq, dNext, dIfS, dTest, dOp, dVar, dC, dRet, dRetN, dGet, dAnd, dOr, dNot, dAndV, dOrV, dNotV, dIf, dNil, dCons, dTup, dLst, dCB, dM0, dM1, dDrop, dAsg, dgName, dPar, dCal, dChain, dRaise, dFor, diSeq, items, diRange1, diRange2, dLc, dYes, dgTup, dgCons, dgNil, dSl, dPart, dNoPart, dNeg, dPenC, dPenA, dPenL, dPutA, dPutL, startD, List.map_cons, List.map_nil, List.length_cons, List.length_nil, List.replicate, Nat.reduceAdd, Nat.reduceSub, List.cons_append, List.nil_append, List.append_nil, List.set_cons_zero, List.set_cons_succ, List.getElem?_cons_zero, List.getElem?_cons_succ]
  refine ⟨trivial, _, rfl, F.le, ?_, hn, fun l' n' hl hn1 hn2 => ?_⟩
  · rw [List.all_eq_true]
    intro x hx
    simp only [Bool.and_eq_true, decide_eq_true_eq]
    exact F.up x hx
  · obtain ⟨g1, g2, g3⟩ := F.mixed hl
    refine ⟨trivial, _, rfl, rfl, fun l e => ?_, fun z => by simp [isStrD] at z⟩
    cases e
    refine ⟨by omega, fun _ => ?_, fun z => by rw [g1] at z; cases z⟩
    rw [g2]
    unfold u__law_letters_right_6
    simp only [dSeq, dNext, dIfS, dTest, dOp, dVar, dC, dRet, dRetN, dGet, dAnd, dOr, dNot, dAndV, dOrV, dNotV, dIf, dNil, dCons, dTup, dLst, dCB, dM0, dM1, dDrop, dAsg, dgName, dPar, dCal, dChain, dRaise, dFor, diSeq, items, diRange1, diRange2, dLc, dYes, dgTup, dgCons, dgNil, dSl, dPart, dNoPart, dNeg, dPenC, dPenA, dPenL, dPutA, dPutL, startD, List.map_cons, List.map_nil, List.length_cons, List.length_nil, List.replicate, Nat.reduceAdd, Nat.reduceSub, List.cons_append, List.nil_append, List.append_nil, List.set_cons_zero, List.set_cons_succ, List.getElem?_cons_zero, List.getElem?_cons_succ, gEq, eqD, scEq, decide_true, gIsi, isiD, kindD, kit_int_int, kit_int_bool, kit_int_str, kit_int_list, kit_int_tuple, kit_bool_int, kit_bool_bool, kit_bool_str, kit_bool_list, kit_bool_tuple, kit_str_int, kit_str_bool, kit_str_str, kit_str_list, kit_str_tuple, kit_non_int, kit_non_bool, kit_non_str, kit_non_list, kit_non_tuple, kit_list_int, kit_list_bool, kit_list_str, kit_list_list, kit_list_tuple, kit_tuple_int, kit_tuple_bool, kit_tuple_str, kit_tuple_list, kit_tuple_tuple, Bool.not_false]
    exact h n' hn1 hn2
theorem occL {x : Nat} (h : 65 ≤ x ∧ x ≤ 90) : Builtin.Str.occurrences (DL.S LET) (DL.S [x]) 0 (DL.S LET).length 1 = [x - 65] := by
  have := occ26 (x - 65) (by omega)
  rw [show 65 + (x - 65) = x from by omega] at this
  exact this
theorem lr4 {c n : Nat} {q : D → Nat → Prop} {e : DY} (h1 : 1 ≤ c) (h2 : c ≤ 18278) (hn : n + 10 < 1000000) (h : ∀ n', n ≤ n' → n' ≤ n + 3 → q (.bl true) n') :
    u__law_letters_right_4 K A cs { nx := fun _ n' => q .non n', rt := q, ex := fun _ => e } [some .pen, some (.int c), some (.str (lettersN c)), none, none] n := by
  have F := facts h1 h2
  have hle := F.le
  have hlast := F.up _ (getLast_mem F.ne)
  unfold u__law_letters_right_4
  simp only [dSeq, dNext, dIfS, dTest, dOp, dVar, dC, dRet, dRetN, dGet, dAnd, dOr, dNot, dAndV, dOrV, dNotV, dIf, dNil, dCons, dTup, dLst, dCB, dM0, dM1, dDrop, dAsg, dgName, dPar, dCal, dChain, dRaise, dFor, diSeq, items, diRange1, diRange2, dLc, dYes, dgTup, dgCons, dgNil, dSl, dPart, dNoPart, dNeg, dPenC, dPenA, dPenL, dPutA, dPutL, startD, List.map_cons, List.map_nil, List.length_cons, List.length_nil, List.replicate, Nat.reduceAdd, Nat.reduceSub, List.cons_append, List.nil_append, List.append_nil, List.set_cons_zero, List.set_cons_succ, List.getElem?_cons_zero, List.getElem?_cons_succ, gLt, gOrd]
  by_cases a : (c : Int) < 18278
  · simp only [a, decide_true, gIx, gNe, eqD, scEq]
    refine ⟨by omega, _, last_at F.ne, ?_⟩
    by_cases b : [(lettersN c).getLastD 0] = [90]
    · simp only [b, decide_true, Bool.not_true]
      exact lr5 h1 h2 hn h _ _
    · simp only [b, decide_false, Bool.not_false, gIndex, gAdd]
      have b' : (lettersN c).getLastD 0 ≠ 90 := fun z => b (by rw [z])
      refine ⟨by omega, trivial, rfl, trivial, rfl, by omega, _, last_at F.ne, _, [], occL hlast, by decide, (lettersN c).getLastD 0 + 1, ?_, ?_, ?_⟩
      · have := look26 ((lettersN c).getLastD 0 - 65 + 1) (by omega)
        rw [show 65 + ((lettersN c).getLastD 0 - 65 + 1) = (lettersN c).getLastD 0 + 1 from by omega] at this
        rw [← this]
        congr 1
      · rw [cut_last F.ne, List.length_dropLast]
        simp only [List.length_cons, List.length_nil]
        omega
      · have hx : lettersN (c + 1) = (lettersN c).dropLast ++ [(lettersN c).getLastD 0 + 1] := by
          rcases F.nxt with z | z | z
          · omega
          · exact absurd z b'
          · exact z
        refine ⟨trivial, _, rfl, rfl, fun c' ec h3 h4 => ?_, fun z => ?_⟩
        · have e2 : c' = c + 1 := by
            have := D.int.inj ec
            omega
          subst e2
          rw [hx, cut_last F.ne]
          simp only [decide_true, Bool.not_true]
          exact lr5 h1 h2 hn h _ _
        · simp only [inR, Bool.and_eq_false_iff, decide_eq_false_iff_not] at z
          omega
  · simp only [a, decide_false]
    exact lr5 h1 h2 hn h _ _
theorem p__law_letters_right (ds : List D) (n : Nat) (q : D → Nat → Prop) (e : DY) (hl : ds.length = 2) (h : s__law_letters_right ds n q e) : t__law_letters_right K A cs { nx := fun _ n' => q .non n', rt := q, ex := fun _ => e } (startD N__law_letters_right ds) n := by
  obtain ⟨c, rfl, h1, h2, hn, h⟩ := h
  have F := facts h1 h2
  have hle := F.le
  have hup := map_up F.up
  have h128 : (lettersN c).all (· < 128) = true := by
    rw [List.all_eq_true]
    intro x hx
    have := F.up x hx
    exact decide_eq_true (by omega)
  have hall : (lettersN c).all isLet = true := by
    rw [List.all_eq_true]
    exact fun x hx => cap_let (F.up x hx)
  unfold t__law_letters_right
  simp only [dSeq, dNext, dIfS, dTest, dOp, dVar, dC, dRet, dRetN, dGet, dAnd, dOr, dNot, dAndV, dOrV, dNotV, dIf, dNil, dCons, dTup, dLst, dCB, dM0, dM1, dDrop, dAsg, dgName, dPar, dCal, dChain, dRaise, dFor, diSeq, items, diRange1, diRange2, dLc, dYes, dgTup, dgCons, dgNil, dSl, dPart, dNoPart, dNeg, dPenC, dPenA, dPenL, dPutA, dPutL, startD, List.map_cons, List.map_nil, List.length_cons, List.length_nil, List.replicate, Nat.reduceAdd, Nat.reduceSub, List.cons_append, List.nil_append, List.append_nil, List.set_cons_zero, List.set_cons_succ, List.getElem?_cons_zero, List.getElem?_cons_succ]
  refine ⟨trivial, _, rfl, rfl, fun c' ec h3 h4 => ?_, fun z => ?_⟩
  · have e2 : c' = c := by
      have := D.int.inj ec
      omega
    subst e2
    unfold u__law_letters_right_2
    simp only [dSeq, dNext, dIfS, dTest, dOp, dVar, dC, dRet, dRetN, dGet, dAnd, dOr, dNot, dAndV, dOrV, dNotV, dIf, dNil, dCons, dTup, dLst, dCB, dM0, dM1, dDrop, dAsg, dgName, dPar, dCal, dChain, dRaise, dFor, diSeq, items, diRange1, diRange2, dLc, dYes, dgTup, dgCons, dgNil, dSl, dPart, dNoPart, dNeg, dPenC, dPenA, dPenL, dPutA, dPutL, startD, List.map_cons, List.map_nil, List.length_cons, List.length_nil, List.replicate, Nat.reduceAdd, Nat.reduceSub, List.cons_append, List.nil_append, List.append_nil, List.set_cons_zero, List.set_cons_succ, List.getElem?_cons_zero, List.getElem?_cons_succ, gIsi, isiD, kindD, kit_int_int, kit_int_bool, kit_int_str, kit_int_list, kit_int_tuple, kit_bool_int, kit_bool_bool, kit_bool_str, kit_bool_list, kit_bool_tuple, kit_str_int, kit_str_bool, kit_str_str, kit_str_list, kit_str_tuple, kit_non_int, kit_non_bool, kit_non_str, kit_non_list, kit_non_tuple, kit_list_int, kit_list_bool, kit_list_str, kit_list_list, kit_list_tuple, kit_tuple_int, kit_tuple_bool, kit_tuple_str, kit_tuple_list, kit_tuple_tuple, Bool.not_true, gNe, eqD, scEq]
    refine ⟨trivial, c', rfl, h1, h2, ?_⟩
    simp only [decide_true, Bool.not_true]
    refine ⟨trivial, _, rfl, by omega, h128, ?_⟩
    simp only [hall, Bool.not_true]
    unfold u__law_letters_right_3
    simp only [dSeq, dNext, dIfS, dTest, dOp, dVar, dC, dRet, dRetN, dGet, dAnd, dOr, dNot, dAndV, dOrV, dNotV, dIf, dNil, dCons, dTup, dLst, dCB, dM0, dM1, dDrop, dAsg, dgName, dPar, dCal, dChain, dRaise, dFor, diSeq, items, diRange1, diRange2, dLc, dYes, dgTup, dgCons, dgNil, dSl, dPart, dNoPart, dNeg, dPenC, dPenA, dPenL, dPutA, dPutL, startD, List.map_cons, List.map_nil, List.length_cons, List.length_nil, List.replicate, Nat.reduceAdd, Nat.reduceSub, List.cons_append, List.nil_append, List.append_nil, List.set_cons_zero, List.set_cons_succ, List.getElem?_cons_zero, List.getElem?_cons_succ, gLen, gNe, eqD, scEq, gAdd, gGt, gOrd, gInt, gUpper]
    refine ⟨by omega, ?_⟩
    have e3 : ((lettersN c').length : Int) = 1 + (if decide ((26 : Int) < (c' : Int)) = true then 1 else 0) + (if decide ((702 : Int) < (c' : Int)) = true then 1 else 0) := by
      rw [F.len]
      by_cases a : c' > 26
      · by_cases b : c' > 702
        · rw [if_pos a, if_pos b, if_pos (decide_eq_true (by omega)), if_pos (decide_eq_true (by omega))]
          rfl
        · rw [if_pos a, if_neg b, if_pos (decide_eq_true (by omega)), if_neg (by rw [decide_eq_true_eq]; omega)]
          rfl
      · rw [if_neg a, if_neg (by omega), if_neg (by rw [decide_eq_true_eq]; omega), if_neg (by rw [decide_eq_true_eq]; omega)]
        rfl
    rw [e3]
    simp only [decide_true, Bool.not_true]
    refine ⟨by omega, h128, ?_⟩
    rw [hup]
    simp only [decide_true, Bool.not_true]
    exact lr4 h1 h2 hn h
  · simp only [inR, Bool.and_eq_false_iff, decide_eq_false_iff_not] at z
    omega
end
end K15

set_option Elab.async false
set_option linter.all false
set_option maxRecDepth 100000
set_option maxHeartbeats 8000000
set_option autoImplicit false
namespace K15
open PySem PySem.Spec PyProof.Rows L2 DL
section
variable {P : Program} {K : PySem.W.Frag} {mg : Str → Option Value} {A : Ad} {cs : List Int}
theorem strOk_S {l : List Nat} (h : l.all (· < 128) = true) : PyData.strOk (DL.S l) = true := by
  unfold PyData.strOk
  rw [← Array.all_toList]
  rw [List.all_eq_true] at h ⊢
  intro x hx
  have := of_decide_eq_true (h x hx)
  exact decide_eq_true (by omega)
theorem eq_pairI {a : List Nat} (ha : a.all (· < 128) = true) (i : Int) (k : Bool → Prop) (h : k true) : eqD (.tup [.str a, .int i]) (.tup [.str a, .int i]) k := by
  refine ⟨.tuple [.str (DL.S a), .int i], .tuple [.str (DL.S a), .int i], rfl, rfl, ?_, ?_, ?_⟩
  · simp only [SeqAt.shaped, PyData.canLay0, PyData.canLayAll0, strOk_S ha, PyData.depth, PyData.depthAll]
    rfl
  · simp only [SeqAt.shaped, PyData.canLay0, PyData.canLayAll0, strOk_S ha, PyData.depth, PyData.depthAll]
    rfl
  · simp only [PyData.eqv, PyData.eqvAll, beq_self_eq_true, Bool.and_self]
    exact h
theorem eq_pairS {a b : List Nat} (ha : a.all (· < 128) = true) (hb : b.all (· < 128) = true) (k : Bool → Prop) (h : k true) : eqD (.tup [.str a, .str b]) (.tup [.str a, .str b]) k := by
  refine ⟨.tuple [.str (DL.S a), .str (DL.S b)], .tuple [.str (DL.S a), .str (DL.S b)], rfl, rfl, ?_, ?_, ?_⟩
  · simp only [SeqAt.shaped, PyData.canLay0, PyData.canLayAll0, strOk_S ha, strOk_S hb, PyData.depth, PyData.depthAll]
    rfl
  · simp only [SeqAt.shaped, PyData.canLay0, PyData.canLayAll0, strOk_S ha, strOk_S hb, PyData.depth, PyData.depthAll]
    rfl
  · simp only [PyData.eqv, PyData.eqvAll, beq_self_eq_true, Bool.and_self]
    exact h
def slotOk (x : Option D) : Prop := x = none ∨ ∃ i, x = some (.int i)
theorem wr6 {w : List Nat} {ys : List D} {x : Option D} {due : D} {n : Nat} {q : D → Nat → Prop} {e : DY} (hx : slotOk x) (hw : w.all (· < 128) = true) (hl : w.length ≤ 1000) (hd : due = if colOk w then .tup [.str [116, 111, 108, 100], .int (numU w : Nat)] else .tup [.str [78, 111, 116, 65, 78, 97, 109, 101], .str w]) (h : q (.bl true) n) :
    u__law_word_right_6 K A cs { nx := fun _ n' => q .non n', rt := q, ex := fun _ => e } [some .pen, some (.str w), some (.lst ys), x, some due] n := by
  have hno : noOwn [some .pen, some (.str w), some (.lst ys), x, some due] = true := by
    rcases hx with rfl | ⟨i, rfl⟩ <;> (rw [hd]; cases colOk w <;> rfl)
  unfold u__law_word_right_6
  simp only [dSeq, dNext, dIfS, dTest, dOp, dVar, dC, dRet, dRetN, dGet, dAnd, dOr, dNot, dAndV, dOrV, dNotV, dIf, dNil, dCons, dTup, dLst, dCB, dM0, dM1, dDrop, dAsg, dgName, dPar, dCal, dChain, dRaise, dFor, diSeq, items, diRange1, diRange2, dLc, dYes, dgTup, dgCons, dgNil, dSl, dPart, dNoPart, dNeg, dPenC, dPenA, dPenL, dPutA, dPutL, startD, List.map_cons, List.map_nil, List.length_cons, List.length_nil, List.replicate, Nat.reduceAdd, Nat.reduceSub, List.cons_append, List.nil_append, List.append_nil, List.set_cons_zero, List.set_cons_succ, List.getElem?_cons_zero, List.getElem?_cons_succ, dLam, s_law_told]
  refine ⟨hno, trivial, _, rfl, rfl, fun l el => ?_, fun z => by simp [isStrD] at z⟩
  cases el
  refine ⟨hl, fun hc => ?_, fun hc => ?_⟩
  · have e1 : due = .tup [.str [116, 111, 108, 100], .int (numU w : Nat)] := by rw [hd, hc]; rfl
    subst e1
    simp only [gEq]
    exact eq_pairI (by decide) _ _ h
  · have e1 : due = .tup [.str [78, 111, 116, 65, 78, 97, 109, 101], .str w] := by rw [hd, hc]; rfl
    subst e1
    refine .inr ⟨rfl, _, rfl, rfl, ?_⟩
    simp only [gEq]
    exact eq_pairS (by decide) hw _ h
theorem wr4 {w : List Nat} {ys : List D} {x y : Option D} {n : Nat} {q : D → Nat → Prop} {e : DY} (hx : slotOk x) (hw : w.all (· < 128) = true) (hl : w.length ≤ 1000) (h : q (.bl true) n) :
    u__law_word_right_4 K A cs { nx := fun _ n' => q .non n', rt := q, ex := fun _ => e } [some .pen, some (.str w), some (.lst ys), x, y] n := by
  unfold u__law_word_right_4
  simp only [dSeq, dNext, dIfS, dTest, dOp, dVar, dC, dRet, dRetN, dGet, dAnd, dOr, dNot, dAndV, dOrV, dNotV, dIf, dNil, dCons, dTup, dLst, dCB, dM0, dM1, dDrop, dAsg, dgName, dPar, dCal, dChain, dRaise, dFor, diSeq, items, diRange1, diRange2, dLc, dYes, dgTup, dgCons, dgNil, dSl, dPart, dNoPart, dNeg, dPenC, dPenA, dPenL, dPutA, dPutL, startD, List.map_cons, List.map_nil, List.length_cons, List.length_nil, List.replicate, Nat.reduceAdd, Nat.reduceSub, List.cons_append, List.nil_append, List.append_nil, List.set_cons_zero, List.set_cons_succ, List.getElem?_cons_zero, List.getElem?_cons_succ]
  refine ⟨by decide, ?_⟩
  unfold u__law_word_right_5
  simp only [dSeq, dNext, dIfS, dTest, dOp, dVar, dC, dRet, dRetN, dGet, dAnd, dOr, dNot, dAndV, dOrV, dNotV, dIf, dNil, dCons, dTup, dLst, dCB, dM0, dM1, dDrop, dAsg, dgName, dPar, dCal, dChain, dRaise, dFor, diSeq, items, diRange1, diRange2, dLc, dYes, dgTup, dgCons, dgNil, dSl, dPart, dNoPart, dNeg, dPenC, dPenA, dPenL, dPutA, dPutL, startD, List.map_cons, List.map_nil, List.length_cons, List.length_nil, List.replicate, Nat.reduceAdd, Nat.reduceSub, List.cons_append, List.nil_append, List.append_nil, List.set_cons_zero, List.set_cons_succ, List.getElem?_cons_zero, List.getElem?_cons_succ, gLe, gOrd, gLen]
  refine ⟨by omega, ?_⟩
  by_cases a : 1 ≤ w.length
  · have a' : (1 : Int) ≤ (w.length : Int) := by omega
    simp only [a', decide_true]
    by_cases b : w.length ≤ 3
    · have b' : (w.length : Int) ≤ 3 := by omega
      simp only [b', decide_true]
      refine ⟨trivial, w, rfl, hl, hw, ?_⟩
      cases hall : w.all isLet with
      | true =>
        dsimp only
        refine ⟨trivial, w, rfl, b, hall, by decide, ?_⟩
        refine wr6 hx hw hl ?_ h
        rw [if_pos (by unfold colOk; simp [a, b, hall])]
      | false =>
        dsimp only
        refine wr6 hx hw hl ?_ h
        rw [if_neg (by unfold colOk; simp [hall])]
    · have b' : ¬ (w.length : Int) ≤ 3 := by omega
      simp only [b', decide_false]
      refine wr6 hx hw hl ?_ h
      rw [if_neg (by unfold colOk; simp [b])]
  · have a' : ¬ (1 : Int) ≤ (w.length : Int) := by omega
    simp only [a', decide_false]
    refine wr6 hx hw hl ?_ h
    rw [if_neg (by unfold colOk; simp [a])]
/-- a menu of small signs -/
def signs (ys : List D) : Prop := 0 < ys.length ∧ ys.length ≤ 1000 ∧ ∀ y ∈ ys, ∃ c, c < 128 ∧ y = .str [c]
theorem wr3 {ys : List D} {n : Nat} {q : D → Nat → Prop} {e : DY} (hy : signs ys) (hn : n + 10 < 1000000) (h : ∀ n', n ≤ n' → n' ≤ n + 7 → q (.bl true) n') :
    u__law_word_right_3 K A cs { nx := fun _ n' => q .non n', rt := q, ex := fun _ => e } [some .pen, some (.str []), some (.lst ys), none, none] n := by
  obtain ⟨y1, y2, y3⟩ := hy
  have loop : ∀ (r : List D) (w : List Nat) (x : Option D) (n1 : Nat), (∀ d ∈ r, ∃ i, d = .int i) → slotOk x → w.all (· < 128) = true → w.length + r.length ≤ 5 → n ≤ n1 → n1 + r.length ≤ n + 7 →
      dForL (dgName 3) (l__law_word_right_4 K A cs) r { nx := fun δ n' => u__law_word_right_4 K A cs { nx := fun _ n' => q .non n', rt := q, ex := fun _ => e } δ n', rt := q, ex := fun _ => e } [some .pen, some (.str w), some (.lst ys), x, none] n1 := by
    intro r
    induction r with
    | nil =>
      intro w x n1 hr hx hw hl h1 h2
      simp only [List.length_nil] at h2
      exact wr4 hx hw (by omega) (h n1 h1 (by omega))
    | cons d r ih =>
      intro w x n1 hr hx hw hl h1 h2
      simp only [List.length_cons] at hl h2
      obtain ⟨i, rfl⟩ := hr d List.mem_cons_self
      simp only [dForL]
      unfold l__law_word_right_4
      simp only [dSeq, dNext, dIfS, dTest, dOp, dVar, dC, dRet, dRetN, dGet, dAnd, dOr, dNot, dAndV, dOrV, dNotV, dIf, dNil, dCons, dTup, dLst, dCB, dM0, dM1, dDrop, dAsg, dgName, dPar, dCal, dChain, dRaise, dFor, diSeq, items, diRange1, diRange2, dLc, dYes, dgTup, dgCons, dgNil, dSl, dPart, dNoPart, dNeg, dPenC, dPenA, dPenL, dPutA, dPutL, startD, List.map_cons, List.map_nil, List.length_cons, List.length_nil, List.replicate, Nat.reduceAdd, Nat.reduceSub, List.cons_append, List.nil_append, List.append_nil, List.set_cons_zero, List.set_cons_succ, List.getElem?_cons_zero, List.getElem?_cons_succ]
      refine ⟨trivial, ys, rfl, y1, y2, by omega, fun y n2 hy hn1 hn2 => ?_⟩
      obtain ⟨c, hc, rfl⟩ := y3 y hy
      simp only [gAdd]
      refine ⟨by simp only [List.length_cons, List.length_nil]; omega, ?_⟩
      refine ih _ _ n2 (fun d hd => hr d (List.mem_cons_of_mem _ hd)) (.inr ⟨i, rfl⟩) ?_ (by simp only [List.length_append, List.length_cons, List.length_nil]; omega) (by omega) (by omega)
      rw [List.all_append, hw]
      simp [hc]
  unfold u__law_word_right_3
  simp only [dSeq, dNext, dIfS, dTest, dOp, dVar, dC, dRet, dRetN, dGet, dAnd, dOr, dNot, dAndV, dOrV, dNotV, dIf, dNil, dCons, dTup, dLst, dCB, dM0, dM1, dDrop, dAsg, dgName, dPar, dCal, dChain, dRaise, dFor, diSeq, items, diRange1, diRange2, dLc, dYes, dgTup, dgCons, dgNil, dSl, dPart, dNoPart, dNeg, dPenC, dPenA, dPenL, dPutA, dPutL, startD, List.map_cons, List.map_nil, List.length_cons, List.length_nil, List.replicate, Nat.reduceAdd, Nat.reduceSub, List.cons_append, List.nil_append, List.append_nil, List.set_cons_zero, List.set_cons_succ, List.getElem?_cons_zero, List.getElem?_cons_succ]
  refine ⟨trivial, 6, rfl, by decide, by decide, by omega, fun k n1 hk hk2 hn1 hn2 => ⟨by omega, by omega, ?_⟩⟩
  refine loop _ [] none n1 ?_ (.inl rfl) rfl ?_ hn1 ?_
  · intro d hd
    unfold rangeD at hd
    obtain ⟨i, _, rfl⟩ := List.mem_map.mp hd
    exact ⟨_, rfl⟩
  · simp only [rangeD, List.length_map, List.length_range, List.length_nil]
    omega
  · simp only [rangeD, List.length_map, List.length_range]
    omega
theorem signs_of (l : List Nat) (h0 : 0 < l.length) (h1 : l.length ≤ 1000) (h : l.all (· < 128) = true) : signs (l.map fun c => .str [c]) := by
  refine ⟨by rw [List.length_map]; exact h0, by rw [List.length_map]; exact h1, fun y hy => ?_⟩
  obtain ⟨c, hc, rfl⟩ := List.mem_map.mp hy
  rw [List.all_eq_true] at h
  exact ⟨c, of_decide_eq_true (h c hc), rfl⟩
theorem p__law_word_right (ds : List D) (n : Nat) (q : D → Nat → Prop) (e : DY) (hl : ds.length = 1) (h : s__law_word_right ds n q e) : t__law_word_right K A cs { nx := fun _ n' => q .non n', rt := q, ex := fun _ => e } (startD N__law_word_right ds) n := by
  obtain ⟨rfl, hn, h⟩ := h
  unfold t__law_word_right
  simp only [dSeq, dNext, dIfS, dTest, dOp, dVar, dC, dRet, dRetN, dGet, dAnd, dOr, dNot, dAndV, dOrV, dNotV, dIf, dNil, dCons, dTup, dLst, dCB, dM0, dM1, dDrop, dAsg, dgName, dPar, dCal, dChain, dRaise, dFor, diSeq, items, diRange1, diRange2, dLc, dYes, dgTup, dgCons, dgNil, dSl, dPart, dNoPart, dNeg, dPenC, dPenA, dPenL, dPutA, dPutL, startD, List.map_cons, List.map_nil, List.length_cons, List.length_nil, List.replicate, Nat.reduceAdd, Nat.reduceSub, List.cons_append, List.nil_append, List.append_nil, List.set_cons_zero, List.set_cons_succ, List.getElem?_cons_zero, List.getElem?_cons_succ, gAdd, gList]
  refine ⟨trivial, rfl, by decide, by decide, by decide, trivial, ?_⟩
  unfold u__law_word_right_2
  simp only [dSeq, dNext, dIfS, dTest, dOp, dVar, dC, dRet, dRetN, dGet, dAnd, dOr, dNot, dAndV, dOrV, dNotV, dIf, dNil, dCons, dTup, dLst, dCB, dM0, dM1, dDrop, dAsg, dgName, dPar, dCal, dChain, dRaise, dFor, diSeq, items, diRange1, diRange2, dLc, dYes, dgTup, dgCons, dgNil, dSl, dPart, dNoPart, dNeg, dPenC, dPenA, dPenL, dPutA, dPutL, startD, List.map_cons, List.map_nil, List.length_cons, List.length_nil, List.replicate, Nat.reduceAdd, Nat.reduceSub, List.cons_append, List.nil_append, List.append_nil, List.set_cons_zero, List.set_cons_succ, List.getElem?_cons_zero, List.getElem?_cons_succ]
  refine ⟨trivial, 2, rfl, by decide, by decide, by omega, fun k n1 hk hk2 hn1 hn2 => ?_⟩
  simp only [gEq, eqD, scEq]
  by_cases z : k = 0
  · simp only [z, decide_true, gList, gAdd]
    refine ⟨by decide, by decide, ?_⟩
    have := wr3 (K := K) (A := A) (cs := cs) (n := n1) (q := q) (e := e) (signs_of (LET ++ [97, 98, 99, 120, 121, 122] ++ [36, 49, 32, 95, 45, 33, 123, 64, 91]) (by decide) (by decide) (by decide)) (by omega) fun n' h1 h2 => h n' (by omega) (by omega)
    exact this
  · simp only [z, decide_false]
    have := wr3 (K := K) (A := A) (cs := cs) (n := n1) (q := q) (e := e) (signs_of (LET ++ [97, 98, 99, 120, 121, 122]) (by decide) (by decide) (by decide)) (by omega) fun n' h1 h2 => h n' (by omega) (by omega)
    exact this
end
end K15

set_option Elab.async false
set_option linter.all false
set_option maxRecDepth 100000
set_option maxHeartbeats 8000000
set_option autoImplicit false
namespace K15
open PySem PySem.Spec PyProof.Rows L2 DL
abbrev BV : List Nat := [66, 97, 100, 86, 97, 108, 117, 101]
theorem selfEq {x : D} {p : PyData} (hp : py x = some p) (hs : SeqAt.shaped (.tuple [.str (DL.S BV), p]) = true) (he : PyData.eqv p p = true) (k : Bool → Prop) (h : k true) : eqD (.tup [.str BV, x]) (.tup [.str BV, x]) k := by
  have e : py (.tup [.str BV, x]) = some (.tuple [.str (DL.S BV), p]) := by
    simp only [py, pyL, hp, Option.map_some]
  refine ⟨_, _, e, e, hs, hs, ?_⟩
  simp only [PyData.eqv, PyData.eqvAll, beq_self_eq_true, he, Bool.and_self]
  exact h
/-- a value that is refused -/
structure Odd (x : D) : Prop where
  k : (kindD x).isSome = true
  eq : ∀ (k : Bool → Prop), k true → eqD (.tup [.str BV, x]) (.tup [.str BV, x]) k
theorem Odd.get {x : D} (o : Odd x) (q : D → Prop) : dGet (some (some x)) q = q x := by
  have := o.k
  cases x <;> first | rfl | simp [kindD] at this
theorem Odd.no {x : D} (o : Odd x) (r : DEnv) : noOwn (some x :: r) = noOwn r := by
  have := o.k
  cases x <;> first | rfl | simp [kindD] at this
theorem odd_ok {x : D} {p : PyData} (hk : (kindD x).isSome = true) (hp : py x = some p) (hs : SeqAt.shaped (.tuple [.str (DL.S BV), p]) = true) (he : PyData.eqv p p = true) : Odd x := ⟨hk, fun k h => selfEq hp hs he k h⟩
section
variable {P : Program} {K : PySem.W.Frag} {mg : Str → Option Value} {A : Ad} {cs : List Int}
theorem get_pen (q : D → Prop) : dGet (some (some .pen)) q = q .pen := rfl
theorem rr5 (T : Txt P K mg A) {x y : D} {n : Nat} {q : D → Nat → Prop} {e : DY} (h : q (.bl true) n) :
    u__law_refused_right_5 K A cs { nx := fun _ n' => q .non n', rt := q, ex := fun _ => e } [some .pen, some x, some y, none, none] n := by
  unfold u__law_refused_right_5
  simp only [dSeq, dNext, dIfS, dTest, dOp, dVar, dC, dRet, dRetN, dGet, dAnd, dOr, dNot, dAndV, dOrV, dNotV, dIf, dNil, dCons, dTup, dLst, dCB, dM0, dM1, dDrop, dAsg, dgName, dPar, dCal, dChain, dRaise, dFor, diSeq, items, diRange1, diRange2, dLc, dYes, dgTup, dgCons, dgNil, dSl, dPart, dNoPart, dNeg, dPenC, dPenA, dPenL, dPutA, dPutL, startD, List.map_cons, List.map_nil, List.length_cons, List.length_nil, List.replicate, Nat.reduceAdd, Nat.reduceSub, List.cons_append, List.nil_append, List.append_nil, List.set_cons_zero, List.set_cons_succ, List.getElem?_cons_zero, List.getElem?_cons_succ]
  unfold u__law_refused_right_6
  simp only [dSeq, dNext, dIfS, dTest, dOp, dVar, dC, dRet, dRetN, dGet, dAnd, dOr, dNot, dAndV, dOrV, dNotV, dIf, dNil, dCons, dTup, dLst, dCB, dM0, dM1, dDrop, dAsg, dgName, dPar, dCal, dChain, dRaise, dFor, diSeq, items, diRange1, diRange2, dLc, dYes, dgTup, dgCons, dgNil, dSl, dPart, dNoPart, dNeg, dPenC, dPenA, dPenL, dPutA, dPutL, startD, List.map_cons, List.map_nil, List.length_cons, List.length_nil, List.replicate, Nat.reduceAdd, Nat.reduceSub, List.cons_append, List.nil_append, List.append_nil, List.set_cons_zero, List.set_cons_succ, List.getElem?_cons_zero, List.getElem?_cons_succ, dTry]
  refine ⟨trivial, _, rfl, rfl, fun l el => ?_, fun z => by simp [isStrD] at z⟩
  cases el
  refine ⟨by decide, fun z => by simp [colOk] at z, fun _ => ⟨true, T.m_NS, fun _ a dd => ?_, fun z => by cases z⟩⟩
  simp only [dSeq, dNext, dIfS, dTest, dOp, dVar, dC, dRet, dRetN, dGet, dAnd, dOr, dNot, dAndV, dOrV, dNotV, dIf, dNil, dCons, dTup, dLst, dCB, dM0, dM1, dDrop, dAsg, dgName, dPar, dCal, dChain, dRaise, dFor, diSeq, items, diRange1, diRange2, dLc, dYes, dgTup, dgCons, dgNil, dSl, dPart, dNoPart, dNeg, dPenC, dPenA, dPenL, dPutA, dPutL, startD, List.map_cons, List.map_nil, List.length_cons, List.length_nil, List.replicate, Nat.reduceAdd, Nat.reduceSub, List.cons_append, List.nil_append, List.append_nil, List.set_cons_zero, List.set_cons_succ, List.getElem?_cons_zero, List.getElem?_cons_succ, gIsE, hdOff]
  refine ⟨⟨trivial, trivial, trivial, T.x_N⟩, _, true, rfl, T.i_NN, ⟨trivial, trivial, trivial, T.x_N⟩, _, true, rfl, T.i_NV, ⟨trivial, trivial, trivial, T.x_N⟩, _, false, rfl, T.i_NB, ?_⟩
  exact h
theorem rr3 (T : Txt P K mg A) {x : D} {n : Nat} {q : D → Nat → Prop} {e : DY} (hx : Odd x) (hn : n + 10 < 1000000) (h : ∀ n', n ≤ n' → n' ≤ n + 1 → q (.bl true) n') :
    u__law_refused_right_3 K A cs { nx := fun _ n' => q .non n', rt := q, ex := fun _ => e } [some .pen, some x, none, none, none] n := by
  unfold u__law_refused_right_3
  simp only [dSeq, dNext, dIfS, dTest, dOp, dVar, dC, dRet, dRetN, dGet, dAnd, dOr, dNot, dAndV, dOrV, dNotV, dIf, dNil, dCons, dTup, dLst, dCB, dM0, dM1, dDrop, dAsg, dgName, dPar, dCal, dChain, dRaise, dFor, diSeq, items, diRange1, diRange2, dLc, dYes, dgTup, dgCons, dgNil, dSl, dPart, dNoPart, dNeg, dPenC, dPenA, dPenL, dPutA, dPutL, startD, List.map_cons, List.map_nil, List.length_cons, List.length_nil, List.replicate, Nat.reduceAdd, Nat.reduceSub, List.cons_append, List.nil_append, List.append_nil, List.set_cons_zero, List.set_cons_succ, List.getElem?_cons_zero, List.getElem?_cons_succ]
  refine ⟨by decide, by decide, by decide, trivial, _, rfl, by decide, by decide, by omega, fun y n1 hy h1 h2 => ?_⟩
  have hy' : Odd y ∧ isStrD y = false := by
    simp only [List.mem_cons, List.not_mem_nil, or_false] at hy
    rcases hy with rfl | rfl | rfl | rfl | rfl | rfl | rfl <;> exact ⟨odd_ok rfl rfl (by decide +kernel) (by decide +kernel), rfl⟩
  obtain ⟨oy, hs⟩ := hy'
  unfold u__law_refused_right_4
  simp only [dSeq, dIfS, dTest, dOp, dVar, dC, dRet, dCons, dNil, dTup, dNext, dCal, dLam, s_law_told, List.getElem?_cons_zero, List.getElem?_cons_succ, oy.get, List.length_cons, List.length_nil, Nat.reduceAdd]
  refine ⟨by rw [show noOwn [some .pen, some x, some y, none, none] = noOwn (some x :: some y :: [none, none]) from rfl, hx.no, oy.no]; rfl, trivial, y, rfl, oy.k, fun l el => by rw [el] at hs; simp [isStrD] at hs, fun _ => ?_⟩
  refine .inl ⟨rfl, y, rfl, rfl, by decide, ?_⟩
  simp only [gNe]
  refine oy.eq _ ?_
  exact rr5 T (h n1 h1 h2)
theorem p__law_refused_right (T : Txt P K mg A) (ds : List D) (n : Nat) (q : D → Nat → Prop) (e : DY) (hl : ds.length = 1) (h : s__law_refused_right ds n q e) : t__law_refused_right K A cs { nx := fun _ n' => q .non n', rt := q, ex := fun _ => e } (startD N__law_refused_right ds) n := by
  obtain ⟨rfl, hn, h⟩ := h
  unfold t__law_refused_right
  simp only [dSeq, dNext, dIfS, dTest, dOp, dVar, dC, dRet, dRetN, dGet, dAnd, dOr, dNot, dAndV, dOrV, dNotV, dIf, dNil, dCons, dTup, dLst, dCB, dM0, dM1, dDrop, dAsg, dgName, dPar, dCal, dChain, dRaise, dFor, diSeq, items, diRange1, diRange2, dLc, dYes, dgTup, dgCons, dgNil, dSl, dPart, dNoPart, dNeg, dPenC, dPenA, dPenL, dPutA, dPutL, startD, List.map_cons, List.map_nil, List.length_cons, List.length_nil, List.replicate, Nat.reduceAdd, Nat.reduceSub, List.cons_append, List.nil_append, List.append_nil, List.set_cons_zero, List.set_cons_succ, List.getElem?_cons_zero, List.getElem?_cons_succ, gAdd, gPow, gI]
  refine ⟨⟨by decide, by decide, by decide⟩, by decide, by decide, by decide, trivial, _, rfl, by decide, by decide, by omega, fun x n1 hx h1 h2 => ?_⟩
  have hx' : Odd x ∧ inR x 1 18278 = false := by
    simp only [List.mem_cons, List.not_mem_nil, or_false] at hx
    rcases hx with rfl | rfl | rfl | rfl | rfl | rfl | rfl | rfl | rfl | rfl | rfl <;> exact ⟨odd_ok rfl rfl (by decide +kernel) (by decide +kernel), by decide +kernel⟩
  obtain ⟨ox, hs⟩ := hx'
  unfold u__law_refused_right_2
  simp only [dSeq, dIfS, dTest, dOp, dVar, dC, dRet, dCons, dNil, dTup, dNext, dCal, dLam, s_law_told, List.getElem?_cons_zero, List.getElem?_cons_succ, ox.get, List.length_cons, List.length_nil, Nat.reduceAdd]
  refine ⟨by rw [show noOwn [some .pen, some x, none, none, none] = noOwn (some x :: [none, none, none]) from rfl, ox.no]; rfl, trivial, x, rfl, ox.k, fun c ec h3 h4 => ?_, fun _ => ?_⟩
  · rw [ec] at hs
    simp only [inR, Bool.and_eq_false_iff, decide_eq_false_iff_not] at hs
    omega
  refine .inl ⟨rfl, x, rfl, rfl, by decide, ?_⟩
  simp only [gNe]
  refine ox.eq _ ?_
  exact rr3 T ox (by omega) fun n' h3 h4 => h n' (by omega) (by omega)
theorem p_law (cs : List Int) : t_law K A cs { nx := fun _ _ => False, rt := fun d _ => d = .bl true } (none :: some .pen :: List.replicate 1 none) 0 := by
  have loop : ∀ (k : DEnds) (hk : ∀ x n, n ≤ 1000 → k.nx [none, some .pen, x] n) (r : List D) (x : Option D) (n : Nat), n + 30 * r.length ≤ 1000 → dForL (dgName 2) (l_law_1 K A cs) r k [none, some .pen, x] n := by
    intro k hk r
    induction r with
    | nil =>
      intro x n hn
      simp only [List.length_nil] at hn
      exact hk x n (by omega)
    | cons d r ih =>
      intro x n hn
      simp only [List.length_cons] at hn
      simp only [dForL]
      unfold l_law_1
      simp only [dSeq, dNext, dIfS, dTest, dOp, dVar, dC, dRet, dRetN, dGet, dAnd, dOr, dNot, dAndV, dOrV, dNotV, dIf, dNil, dCons, dTup, dLst, dCB, dM0, dM1, dDrop, dAsg, dgName, dPar, dCal, dChain, dRaise, dFor, diSeq, items, diRange1, diRange2, dLc, dYes, dgTup, dgCons, dgNil, dSl, dPart, dNoPart, dNeg, dPenC, dPenA, dPenL, dPutA, dPutL, startD, List.map_cons, List.map_nil, List.length_cons, List.length_nil, List.replicate, Nat.reduceAdd, Nat.reduceSub, List.cons_append, List.nil_append, List.append_nil, List.set_cons_zero, List.set_cons_succ, List.getElem?_cons_zero, List.getElem?_cons_succ]
      refine ⟨trivial, rfl, by omega, fun c n1 h1 h2 h3 h4 => ⟨trivial, c, rfl, h1, h2, by omega, fun n2 h5 h6 => ?_⟩⟩
      refine ⟨trivial, rfl, by omega, fun n3 h7 h8 => ?_⟩
      exact ih (some d) n3 (by omega)
  unfold t_law
  simp only [dSeq, dNext, dIfS, dTest, dOp, dVar, dC, dRet, dRetN, dGet, dAnd, dOr, dNot, dAndV, dOrV, dNotV, dIf, dNil, dCons, dTup, dLst, dCB, dM0, dM1, dDrop, dAsg, dgName, dPar, dCal, dChain, dRaise, dFor, diSeq, items, diRange1, diRange2, dLc, dYes, dgTup, dgCons, dgNil, dSl, dPart, dNoPart, dNeg, dPenC, dPenA, dPenL, dPutA, dPutL, startD, List.map_cons, List.map_nil, List.length_cons, List.length_nil, List.replicate, Nat.reduceAdd, Nat.reduceSub, List.cons_append, List.nil_append, List.append_nil, List.set_cons_zero, List.set_cons_succ, List.getElem?_cons_zero, List.getElem?_cons_succ]
  refine ⟨by decide, by decide, ?_⟩
  refine loop _ (fun x n hn => ?_) _ none 0 (by decide)
  exact ⟨trivial, rfl, by omega, fun n' _ _ => rfl⟩
end
end K15

set_option Elab.async false
set_option linter.all false
set_option maxRecDepth 100000
set_option maxHeartbeats 8000000
set_option autoImplicit false
namespace K15
open PySem PySem.Spec PyProof.Rows L2 DL
section
variable {P : Program} {w : World} {K : PySem.W.Frag} {mg : Str → Option Value} {base : Heap} {A : Ad} {pn : Addr} {cs : List Int} {Tb : List (Addr × Str)}
theorem b_is_integer (T : Txt P K mg A)  (f : Addr) (cdv : Value) (A0 : Around) (outer : List Env) (s0 : Shared) (H : Hp) (E : XK) (hr : Room 1 (A0.deeper (envOfC "is_integer" (defScope (top 7)) s0.heap.objs.size f cdv))) :
    PSs (XC P w K mg base N_is_integer "is_integer" (top 7) f cdv A0 outer s0 H E) (defBody (top 7)) (liftS (MM K Tb pn cs) (fun cls d _ H' => E cls d H') (t_is_integer K A cs)) := by
  have tk : Takes (XC P w K mg base N_is_integer "is_integer" (top 7) f cdv A0 outer s0 H E) (fun cls d _ H => E cls d H) := takes_of rfl rfl rfl rfl
  have hp : PassesOwn (model P w) (XC P w K mg base N_is_integer "is_integer" (top 7) f cdv A0 outer s0 H E).A (XC P w K mg base N_is_integer "is_integer" (top 7) f cdv A0 outer s0 H E).env (XC P w K mg base N_is_integer "is_integer" (top 7) f cdv A0 outer s0 H E).xe := passes_of rfl
  exact (dss_one (ds_ret (dp_and (dp_bfn (call_isi) (drc_isi rfl) (by rfl) T.n_isinstance PyProof.Rows.boot_isinstance (da_cons (dp_var (pv 0)) (da_cons (dp_ty (by rfl) (by exact T.n_int) PyProof.Rows.boot_int) da_nil))) (dp_one (dp_not (dp_bfn (call_isi) (drc_isi rfl) (by rfl) T.n_isinstance PyProof.Rows.boot_isinstance (da_cons (dp_var (pv 0)) (da_cons (dp_ty (by rfl) (by exact T.n_bool) PyProof.Rows.boot_bool) da_nil))))))))
theorem b_need_between (T : Txt P K mg A) (cis_integer : CalD P w K mg base (MM K Tb pn cs) 2 "is_integer" ["value"] s_is_integer) (f : Addr) (cdv : Value) (A0 : Around) (outer : List Env) (s0 : Shared) (H : Hp) (E : XK) (hr : Room 2 (A0.deeper (envOfC "need_between" (defScope (top 8)) s0.heap.objs.size f cdv))) :
    PSs (XC P w K mg base N_need_between "need_between" (top 8) f cdv A0 outer s0 H E) (defBody (top 8)) (liftS (MM K Tb pn cs) (fun cls d _ H' => E cls d H') (t_need_between K A cs)) := by
  have tk : Takes (XC P w K mg base N_need_between "need_between" (top 8) f cdv A0 outer s0 H E) (fun cls d _ H => E cls d H) := takes_of rfl rfl rfl rfl
  have hp : PassesOwn (model P w) (XC P w K mg base N_need_between "need_between" (top 8) f cdv A0 outer s0 H E).A (XC P w K mg base N_need_between "need_between" (top 8) f cdv A0 outer s0 H E).env (XC P w K mg base N_need_between "need_between" (top 8) f cdv A0 outer s0 H E).xe := passes_of rfl
  exact (dss_one (ds_if (dt_w (dw_or (dt_not (dt_val (dp_cal (by exact cis_integer) (by exact hr) (by decide) (by exact tk) (by rfl) (da_cons (dp_var (pv 0)) da_nil)))) (dw_or1 (dt_not (dt_chain op_leX dr_ord op_leX dr_ord (dp_var (pv 1)) (dp_var (pv 0)) (dp_var (pv 2))))))) (dss_one (ds_raise (ps_raiseErr rfl T.e_BadValue hr tk (da_cons (dp_var (pv 0)) da_nil) (by rfl) (by decide)))) dss_nil))
theorem b_need_any_string (T : Txt P K mg A)  (f : Addr) (cdv : Value) (A0 : Around) (outer : List Env) (s0 : Shared) (H : Hp) (E : XK) (hr : Room 1 (A0.deeper (envOfC "need_any_string" (defScope (top 9)) s0.heap.objs.size f cdv))) :
    PSs (XC P w K mg base N_need_any_string "need_any_string" (top 9) f cdv A0 outer s0 H E) (defBody (top 9)) (liftS (MM K Tb pn cs) (fun cls d _ H' => E cls d H') (t_need_any_string K A cs)) := by
  have tk : Takes (XC P w K mg base N_need_any_string "need_any_string" (top 9) f cdv A0 outer s0 H E) (fun cls d _ H => E cls d H) := takes_of rfl rfl rfl rfl
  have hp : PassesOwn (model P w) (XC P w K mg base N_need_any_string "need_any_string" (top 9) f cdv A0 outer s0 H E).A (XC P w K mg base N_need_any_string "need_any_string" (top 9) f cdv A0 outer s0 H E).env (XC P w K mg base N_need_any_string "need_any_string" (top 9) f cdv A0 outer s0 H E).xe := passes_of rfl
  exact (dss_one (ds_if (dt_not (dt_val (dp_bfn (call_isi) (drc_isi rfl) (by rfl) T.n_isinstance PyProof.Rows.boot_isinstance (da_cons (dp_var (pv 0)) (da_cons (dp_ty (by rfl) (by exact T.n_str) PyProof.Rows.boot_str) da_nil))))) (dss_one (ds_raise (ps_raiseErr rfl T.e_BadValue hr tk (da_cons (dp_var (pv 0)) da_nil) (by rfl) (by decide)))) dss_nil))
theorem b_is_letter (T : Txt P K mg A)  (f : Addr) (cdv : Value) (A0 : Around) (outer : List Env) (s0 : Shared) (H : Hp) (E : XK) (hr : Room 1 (A0.deeper (envOfC "is_letter" (defScope (top 11)) s0.heap.objs.size f cdv))) :
    PSs (XC P w K mg base N_is_letter "is_letter" (top 11) f cdv A0 outer s0 H E) (defBody (top 11)) (liftS (MM K Tb pn cs) (fun cls d _ H' => E cls d H') (t_is_letter K A cs)) := by
  have tk : Takes (XC P w K mg base N_is_letter "is_letter" (top 11) f cdv A0 outer s0 H E) (fun cls d _ H => E cls d H) := takes_of rfl rfl rfl rfl
  have hp : PassesOwn (model P w) (XC P w K mg base N_is_letter "is_letter" (top 11) f cdv A0 outer s0 H E).A (XC P w K mg base N_is_letter "is_letter" (top 11) f cdv A0 outer s0 H E).env (XC P w K mg base N_is_letter "is_letter" (top 11) f cdv A0 outer s0 H E).xe := passes_of rfl
  exact (dss_one (ds_ret (dp_or (dp_chain op_leX dr_ord op_leX dr_ord (dp_str [97]) (dp_var (pv 0)) (dp_str [122])) (dp_one (dp_chain op_leX dr_ord op_leX dr_ord (dp_str [65]) (dp_var (pv 0)) (dp_str [90]))))))
theorem b_column_letters (T : Txt P K mg A)  (f : Addr) (cdv : Value) (A0 : Around) (outer : List Env) (s0 : Shared) (H : Hp) (E : XK) (hr : Room 1 (A0.deeper (envOfC "column_letters" (defScope (top 15)) s0.heap.objs.size f cdv))) :
    PSs (XC P w K mg base N_column_letters "column_letters" (top 15) f cdv A0 outer s0 H E) (defBody (top 15)) (liftS (MM K Tb pn cs) (fun cls d _ H' => E cls d H') (t_column_letters K A cs)) := by
  have tk : Takes (XC P w K mg base N_column_letters "column_letters" (top 15) f cdv A0 outer s0 H E) (fun cls d _ H => E cls d H) := takes_of rfl rfl rfl rfl
  have hp : PassesOwn (model P w) (XC P w K mg base N_column_letters "column_letters" (top 15) f cdv A0 outer s0 H E).A (XC P w K mg base N_column_letters "column_letters" (top 15) f cdv A0 outer s0 H E).env (XC P w K mg base N_column_letters "column_letters" (top 15) f cdv A0 outer s0 H E).xe := passes_of rfl
  exact (dss_cons (ds_par (ps_par (i := 1) (j := 2) rfl sc_column_letters.nd rfl rfl (by decide) rfl rfl (da_cons (dp_str []) (da_cons (dp_var (pv 0)) da_nil)) rfl rfl))
      (dss_cons (ds_while hp (dt_cmp op_gtX dr_ord (dp_var (pv 2)) dp_int (nomark _)) (dss_cons (ds_set (ps_set (i := 1) sc_column_letters.nd rfl (Or.inl rfl) (dp_add rfl (dp_ix rfl (dp_gs T.g_LETTERS rfl) (dp_mod (dp_bty (call_int1) (drc_int) (by rfl) T.n_int PyProof.Rows.boot_int (da_cons (dp_sub (dp_var (pv 2)) dp_int) da_nil)) dp_int)) (dp_var (pv 1)))))
      (dss_one (ds_set (ps_set (i := 2) sc_column_letters.nd rfl (Or.inl rfl) (dp_div (dp_sub (dp_var (pv 2)) dp_int) dp_int))))))
      (dss_one (ds_ret (dp_var (pv 1))))))
theorem b_column_number (T : Txt P K mg A) (cis_letter : CalD P w K mg base (MM K Tb pn cs) 2 "is_letter" ["sign"] s_is_letter) (f : Addr) (cdv : Value) (A0 : Around) (outer : List Env) (s0 : Shared) (H : Hp) (E : XK) (hr : Room 2 (A0.deeper (envOfC "column_number" (defScope (top 16)) s0.heap.objs.size f cdv))) :
    PSs (XC P w K mg base N_column_number "column_number" (top 16) f cdv A0 outer s0 H E) (defBody (top 16)) (liftS (MM K Tb pn cs) (fun cls d _ H' => E cls d H') (t_column_number K A cs)) := by
  have tk : Takes (XC P w K mg base N_column_number "column_number" (top 16) f cdv A0 outer s0 H E) (fun cls d _ H => E cls d H) := takes_of rfl rfl rfl rfl
  have hp : PassesOwn (model P w) (XC P w K mg base N_column_number "column_number" (top 16) f cdv A0 outer s0 H E).A (XC P w K mg base N_column_number "column_number" (top 16) f cdv A0 outer s0 H E).env (XC P w K mg base N_column_number "column_number" (top 16) f cdv A0 outer s0 H E).xe := passes_of rfl
  exact (dss_cons (ds_if (dt_w (dw_or (dt_not (dt_chain op_leX dr_ord op_leX dr_ord dp_int (dp_bfn (call_len) (drc_len rfl) (by rfl) T.n_len PySem.boot_len (da_cons (dp_var (pv 0)) da_nil)) dp_int)) (dw_or1 (dt_not (dt_val (dp_bfn (cr_all rfl) (drc_all rfl) (by rfl) T.n_all PyProof.Rows.boot_all (da_cons (dp_lc (pe_lc (own := [("sign", 1)]) rfl sc_column_number.nd (di_list rfl (dp_var (pv 0))) (blkOk_by (N := N_column_number) (sc := defScope (top 16)) (by decide +kernel)) (fun s H C cl fp => dg_of (pg_name (i := 1) sc_column_number.nd rfl (Or.inl rfl)) List.mem_cons_self) (fun s H C cl fp => by exact dts_nil) (fun s H C cl fp => by exact (dp_cal (by exact cis_letter) (by exact hr) (by decide) (by exact LamX.takes0) (by rfl) (da_cons (dp_var (pv 1)) da_nil))))) da_nil))))))) (dss_one (ds_ret dp_non)) dss_nil)
      (dss_cons (ds_set (ps_set (i := 2) sc_column_number.nd rfl (Or.inl rfl) dp_int))
      (dss_cons (ds_for (vs := [1]) hp rfl (di_list rfl (dp_var (pv 0))) (dg_of (pg_name (i := 1) sc_column_number.nd rfl (Or.inl rfl)) List.mem_cons_self) (dss_one (ds_set (ps_set (i := 2) sc_column_number.nd rfl (Or.inl rfl) (dp_add rfl (dp_add rfl (dp_mul (dp_var (pv 2)) dp_int) (dp_m1 (pe_index (dp_gs T.g_LETTERS rfl) (dp_m0 (pe_upper (dp_var (pv 1))) drm_upper)) drm_index)) dp_int)))))
      (dss_one (ds_ret (dp_var (pv 2)))))))
theorem b_letters_of (T : Txt P K mg A) (ccolumn_letters : CalD P w K mg base (MM K Tb pn cs) 2 "column_letters" ["column"] s_column_letters) (cneed_between : CalD P w K mg base (MM K Tb pn cs) 3 "need_between" ["value", "least", "most"] (s_need_between A)) (f : Addr) (cdv : Value) (A0 : Around) (outer : List Env) (s0 : Shared) (H : Hp) (E : XK) (hr : Room 3 (A0.deeper (envOfC "letters_of" (defScope (top 17)) s0.heap.objs.size f cdv))) :
    PSs (XC P w K mg base N_letters_of "letters_of" (top 17) f cdv A0 outer s0 H E) (defBody (top 17)) (liftS (MM K Tb pn cs) (fun cls d _ H' => E cls d H') (t_letters_of K A cs)) := by
  have tk : Takes (XC P w K mg base N_letters_of "letters_of" (top 17) f cdv A0 outer s0 H E) (fun cls d _ H => E cls d H) := takes_of rfl rfl rfl rfl
  have hp : PassesOwn (model P w) (XC P w K mg base N_letters_of "letters_of" (top 17) f cdv A0 outer s0 H E).A (XC P w K mg base N_letters_of "letters_of" (top 17) f cdv A0 outer s0 H E).env (XC P w K mg base N_letters_of "letters_of" (top 17) f cdv A0 outer s0 H E).xe := passes_of rfl
  exact (dss_cons (ds_expr (dp_cal (by exact cneed_between) (by exact hr) (by decide) (by exact tk) (by rfl) (da_cons (dp_var (pv 0)) (da_cons dp_int (da_cons (dp_gi T.g_MOST_COLUMNS rfl) da_nil)))))
      (dss_one (ds_ret (dp_cal (by exact ccolumn_letters) (by exact hr) (by decide) (by exact tk) (by rfl) (da_cons (dp_var (pv 0)) da_nil)))))
theorem b_column_of (T : Txt P K mg A) (ccolumn_number : CalD P w K mg base (MM K Tb pn cs) 3 "column_number" ["letters"] s_column_number) (cneed_any_string : CalD P w K mg base (MM K Tb pn cs) 2 "need_any_string" ["value"] (s_need_any_string A)) (f : Addr) (cdv : Value) (A0 : Around) (outer : List Env) (s0 : Shared) (H : Hp) (E : XK) (hr : Room 3 (A0.deeper (envOfC "column_of" (defScope (top 18)) s0.heap.objs.size f cdv))) :
    PSs (XC P w K mg base N_column_of "column_of" (top 18) f cdv A0 outer s0 H E) (defBody (top 18)) (liftS (MM K Tb pn cs) (fun cls d _ H' => E cls d H') (t_column_of K A cs)) := by
  have tk : Takes (XC P w K mg base N_column_of "column_of" (top 18) f cdv A0 outer s0 H E) (fun cls d _ H => E cls d H) := takes_of rfl rfl rfl rfl
  have hp : PassesOwn (model P w) (XC P w K mg base N_column_of "column_of" (top 18) f cdv A0 outer s0 H E).A (XC P w K mg base N_column_of "column_of" (top 18) f cdv A0 outer s0 H E).env (XC P w K mg base N_column_of "column_of" (top 18) f cdv A0 outer s0 H E).xe := passes_of rfl
  exact (dss_cons (ds_expr (dp_cal (by exact cneed_any_string) (by exact hr) (by decide) (by exact tk) (by rfl) (da_cons (dp_var (pv 0)) da_nil)))
      (dss_cons (ds_set (ps_set (i := 1) sc_column_of.nd rfl (Or.inl rfl) (dp_cal (by exact ccolumn_number) (by exact hr) (by decide) (by exact tk) (by rfl) (da_cons (dp_var (pv 0)) da_nil))))
      (dss_cons (ds_if (dt_cmp op_isN dr_isN (dp_var (pv 1)) dp_non (nomark _)) (dss_one (ds_raise (ps_raiseErr rfl T.e_NotAName hr tk (da_cons (dp_var (pv 0)) da_nil) (by rfl) (by decide)))) dss_nil)
      (dss_one (ds_ret (dp_var (pv 1)))))))
theorem b__law_draw (T : Txt P K mg A)  (f : Addr) (cdv : Value) (A0 : Around) (outer : List Env) (s0 : Shared) (H : Hp) (E : XK) (hr : Room 1 (A0.deeper (envOfC "_law_draw" (defScope (top 21)) s0.heap.objs.size f cdv))) :
    PSs (XC P w K mg base N__law_draw "_law_draw" (top 21) f cdv A0 outer s0 H E) (defBody (top 21)) (liftS (MM K Tb pn cs) (fun cls d _ H' => E cls d H') (t__law_draw K A cs)) := by
  have tk : Takes (XC P w K mg base N__law_draw "_law_draw" (top 21) f cdv A0 outer s0 H E) (fun cls d _ H => E cls d H) := takes_of rfl rfl rfl rfl
  have hp : PassesOwn (model P w) (XC P w K mg base N__law_draw "_law_draw" (top 21) f cdv A0 outer s0 H E).A (XC P w K mg base N__law_draw "_law_draw" (top 21) f cdv A0 outer s0 H E).env (XC P w K mg base N__law_draw "_law_draw" (top 21) f cdv A0 outer s0 H E).xe := passes_of rfl
  exact (dss_cons (ds_if (dt_cmp op_geX dr_ord (dp_penl KO (hu_of hr) (dp_var (pv 0)) pe_str (fun _ _ => rfl)) (dp_var (pv 1)) (nomark _)) (dss_cons (ds_set (ps_set (i := 2) sc__law_draw.nd rfl (Or.inl rfl) (dp_mod (dp_bty (call_int1) (drc_int) (by rfl) T.n_int PyProof.Rows.boot_int (da_cons (dp_penl KO (hu_of hr) (dp_var (pv 0)) pe_str (fun _ _ => rfl)) da_nil)) (dp_var (pv 1)))))
      (dss_cons (ds_putl KO (hu_of hr) (dp_var (pv 0)) pe_str (dp_div (dp_penl KO (hu_of hr) (dp_var (pv 0)) pe_str (fun _ _ => rfl)) (dp_var (pv 1))))
      (dss_one (ds_ret (dp_var (pv 2)))))) dss_nil)
      (dss_cons (ds_set (ps_set (i := 3) sc__law_draw.nd rfl (Or.inl rfl) (dp_pena KO (hu_of hr) (dp_var (pv 0)) pe_str (fun _ _ => rfl))))
      (dss_cons (ds_puta KO (hu_of hr) (dp_var (pv 0)) pe_str (dp_add rfl (dp_var (pv 3)) dp_int))
      (dss_cons (ds_set (ps_set (i := 4) sc__law_draw.nd rfl (Or.inl rfl) (dp_add rfl (dp_mul dp_int (dp_var (pv 3))) dp_int)))
      (dss_cons (ds_if (dt_cmp (op_neX rfl (hu64 hr)) dr_ne (dp_penc (hu_of hr) (dp_var (pv 0)) pe_str (fun _ _ => rfl)) (dp_lst da_nil) (nomark _)) (dss_one (ds_set (ps_set (i := 4) sc__law_draw.nd rfl (Or.inl rfl) (dp_ix rfl (dp_penc (hu_of hr) (dp_var (pv 0)) pe_str (fun _ _ => rfl)) (dp_mod (dp_bty (call_int1) (drc_int) (by rfl) T.n_int PyProof.Rows.boot_int (da_cons (dp_var (pv 3)) da_nil)) (dp_bfn (call_len) (drc_len rfl) (by rfl) T.n_len PySem.boot_len (da_cons (dp_penc (hu_of hr) (dp_var (pv 0)) pe_str (fun _ _ => rfl)) da_nil))))))) dss_nil)
      (dss_cons (ds_if (dt_w (dw_and (dt_cmp op_ltX dr_ord (dp_var (pv 3)) (dp_bfn (call_len) (drc_len rfl) (by rfl) T.n_len PySem.boot_len (da_cons (dp_penc (hu_of hr) (dp_var (pv 0)) pe_str (fun _ _ => rfl)) da_nil)) (nomark _)) (dw_and1 (dt_cmp op_geX dr_ord (dp_var (pv 4)) (dp_pow dp_int dp_int) (nomark _))))) (dss_cons (ds_putl KO (hu_of hr) (dp_var (pv 0)) pe_str (dp_div (dp_sub (dp_var (pv 4)) (dp_pow dp_int dp_int)) (dp_var (pv 1))))
      (dss_one (ds_ret (dp_mod (dp_bty (call_int1) (drc_int) (by rfl) T.n_int PyProof.Rows.boot_int (da_cons (dp_sub (dp_var (pv 4)) (dp_pow dp_int dp_int)) da_nil)) (dp_var (pv 1)))))) dss_nil)
      (dss_cons (ds_set (ps_set (i := 5) sc__law_draw.nd rfl (Or.inl rfl) (dp_add rfl (dp_mul (dp_mod (dp_bty (call_int1) (drc_int) (by rfl) T.n_int PyProof.Rows.boot_int (da_cons (dp_var (pv 4)) da_nil)) dp_int) dp_int) (dp_mul (dp_mul dp_int (dp_var (pv 3))) (dp_var (pv 3))))))
      (dss_cons (ds_set (ps_set (i := 5) sc__law_draw.nd rfl (Or.inl rfl) (dp_mod (dp_bty (call_int1) (drc_int) (by rfl) T.n_int PyProof.Rows.boot_int (da_cons (dp_add rfl (dp_add rfl (dp_var (pv 5)) (dp_mul dp_int (dp_var (pv 3)))) dp_int) da_nil)) dp_int)))
      (dss_cons (ds_set (ps_set (i := 5) sc__law_draw.nd rfl (Or.inl rfl) (dp_mod (dp_bty (call_int1) (drc_int) (by rfl) T.n_int PyProof.Rows.boot_int (da_cons (dp_add rfl (dp_mul (dp_var (pv 5)) (dp_add rfl (dp_var (pv 5)) dp_int)) (dp_mul dp_int (dp_var (pv 3)))) da_nil)) dp_int)))
      (dss_one (ds_ret (dp_mod (dp_bty (call_int1) (drc_int) (by rfl) T.n_int PyProof.Rows.boot_int (da_cons (dp_div (dp_mod (dp_bty (call_int1) (drc_int) (by rfl) T.n_int PyProof.Rows.boot_int (da_cons (dp_add rfl (dp_mul (dp_var (pv 5)) (dp_var (pv 5))) (dp_mul dp_int (dp_var (pv 5)))) da_nil)) dp_int) dp_int) da_nil)) (dp_var (pv 1))))))))))))))
theorem b__law_pick (T : Txt P K mg A) (c_law_draw : CalD P w K mg base (MM K Tb pn cs) 2 "_law_draw" ["_law_pen_here", "_law_span"] s__law_draw) (f : Addr) (cdv : Value) (A0 : Around) (outer : List Env) (s0 : Shared) (H : Hp) (E : XK) (hr : Room 2 (A0.deeper (envOfC "_law_pick" (defScope (top 22)) s0.heap.objs.size f cdv))) :
    PSs (XC P w K mg base N__law_pick "_law_pick" (top 22) f cdv A0 outer s0 H E) (defBody (top 22)) (liftS (MM K Tb pn cs) (fun cls d _ H' => E cls d H') (t__law_pick K A cs)) := by
  have tk : Takes (XC P w K mg base N__law_pick "_law_pick" (top 22) f cdv A0 outer s0 H E) (fun cls d _ H => E cls d H) := takes_of rfl rfl rfl rfl
  have hp : PassesOwn (model P w) (XC P w K mg base N__law_pick "_law_pick" (top 22) f cdv A0 outer s0 H E).A (XC P w K mg base N__law_pick "_law_pick" (top 22) f cdv A0 outer s0 H E).env (XC P w K mg base N__law_pick "_law_pick" (top 22) f cdv A0 outer s0 H E).xe := passes_of rfl
  exact (dss_one (ds_ret (dp_ix rfl (dp_var (pv 1)) (dp_cal (by exact c_law_draw) (by exact hr) (by decide) (by exact tk) (by rfl) (da_cons (dp_var (pv 0)) (da_cons (dp_bfn (call_len) (drc_len rfl) (by rfl) T.n_len PySem.boot_len (da_cons (dp_var (pv 1)) da_nil)) da_nil))))))
theorem b__law_signs (T : Txt P K mg A)  (f : Addr) (cdv : Value) (A0 : Around) (outer : List Env) (s0 : Shared) (H : Hp) (E : XK) (hr : Room 1 (A0.deeper (envOfC "_law_signs" (defScope (top 23)) s0.heap.objs.size f cdv))) :
    PSs (XC P w K mg base N__law_signs "_law_signs" (top 23) f cdv A0 outer s0 H E) (defBody (top 23)) (liftS (MM K Tb pn cs) (fun cls d _ H' => E cls d H') (t__law_signs K A cs)) := by
  have tk : Takes (XC P w K mg base N__law_signs "_law_signs" (top 23) f cdv A0 outer s0 H E) (fun cls d _ H => E cls d H) := takes_of rfl rfl rfl rfl
  have hp : PassesOwn (model P w) (XC P w K mg base N__law_signs "_law_signs" (top 23) f cdv A0 outer s0 H E).A (XC P w K mg base N__law_signs "_law_signs" (top 23) f cdv A0 outer s0 H E).env (XC P w K mg base N__law_signs "_law_signs" (top 23) f cdv A0 outer s0 H E).xe := passes_of rfl
  exact (dss_one (ds_ret (dp_str [65, 66, 67, 68, 69, 70, 71, 72, 73, 74, 75, 76, 77, 78, 79, 80, 81, 82, 83, 84, 85, 86, 87, 88, 89, 90])))
theorem b__law_letters (T : Txt P K mg A) (c_law_signs : CalD P w K mg base (MM K Tb pn cs) 2 "_law_signs" [] s__law_signs) (f : Addr) (cdv : Value) (A0 : Around) (outer : List Env) (s0 : Shared) (H : Hp) (E : XK) (hr : Room 2 (A0.deeper (envOfC "_law_letters" (defScope (top 24)) s0.heap.objs.size f cdv))) :
    PSs (XC P w K mg base N__law_letters "_law_letters" (top 24) f cdv A0 outer s0 H E) (defBody (top 24)) (liftS (MM K Tb pn cs) (fun cls d _ H' => E cls d H') (t__law_letters K A cs)) := by
  have tk : Takes (XC P w K mg base N__law_letters "_law_letters" (top 24) f cdv A0 outer s0 H E) (fun cls d _ H => E cls d H) := takes_of rfl rfl rfl rfl
  have hp : PassesOwn (model P w) (XC P w K mg base N__law_letters "_law_letters" (top 24) f cdv A0 outer s0 H E).A (XC P w K mg base N__law_letters "_law_letters" (top 24) f cdv A0 outer s0 H E).env (XC P w K mg base N__law_letters "_law_letters" (top 24) f cdv A0 outer s0 H E).xe := passes_of rfl
  exact (dss_cons (ds_par (ps_par (i := 1) (j := 2) rfl sc__law_letters.nd rfl rfl (by decide) rfl rfl (da_cons (dp_str []) (da_cons (dp_var (pv 0)) da_nil)) rfl rfl))
      (dss_cons (ds_for (vs := [3]) hp rfl (di_range1 (pi_range1 (by rfl) T.n_range (da_cons dp_int da_nil))) (dg_of (pg_name (i := 3) sc__law_letters.nd rfl (Or.inl rfl)) List.mem_cons_self) (dss_one (ds_if (dt_cmp op_gtX dr_ord (dp_var (pv 2)) dp_int (nomark _)) (dss_cons (ds_set (ps_set (i := 1) sc__law_letters.nd rfl (Or.inl rfl) (dp_add rfl (dp_ix rfl (dp_cal0 (by exact c_law_signs) (by exact hr) (by decide) (by exact tk) (by rfl)) (dp_mod (dp_bty (call_int1) (drc_int) (by rfl) T.n_int PyProof.Rows.boot_int (da_cons (dp_sub (dp_var (pv 2)) dp_int) da_nil)) dp_int)) (dp_var (pv 1)))))
      (dss_one (ds_set (ps_set (i := 2) sc__law_letters.nd rfl (Or.inl rfl) (dp_div (dp_sub (dp_var (pv 2)) dp_int) dp_int))))) dss_nil)))
      (dss_one (ds_ret (dp_var (pv 1))))))
theorem b__law_column (T : Txt P K mg A) (c_law_signs : CalD P w K mg base (MM K Tb pn cs) 2 "_law_signs" [] s__law_signs) (f : Addr) (cdv : Value) (A0 : Around) (outer : List Env) (s0 : Shared) (H : Hp) (E : XK) (hr : Room 2 (A0.deeper (envOfC "_law_column" (defScope (top 25)) s0.heap.objs.size f cdv))) :
    PSs (XC P w K mg base N__law_column "_law_column" (top 25) f cdv A0 outer s0 H E) (defBody (top 25)) (liftS (MM K Tb pn cs) (fun cls d _ H' => E cls d H') (t__law_column K A cs)) := by
  have tk : Takes (XC P w K mg base N__law_column "_law_column" (top 25) f cdv A0 outer s0 H E) (fun cls d _ H => E cls d H) := takes_of rfl rfl rfl rfl
  have hp : PassesOwn (model P w) (XC P w K mg base N__law_column "_law_column" (top 25) f cdv A0 outer s0 H E).A (XC P w K mg base N__law_column "_law_column" (top 25) f cdv A0 outer s0 H E).env (XC P w K mg base N__law_column "_law_column" (top 25) f cdv A0 outer s0 H E).xe := passes_of rfl
  exact (dss_cons (ds_set (ps_set (i := 1) sc__law_column.nd rfl (Or.inl rfl) dp_int))
      (dss_cons (ds_for (vs := [2]) hp rfl (di_list rfl (dp_m0 (pe_upper (dp_var (pv 0))) drm_upper)) (dg_of (pg_name (i := 2) sc__law_column.nd rfl (Or.inl rfl)) List.mem_cons_self) (dss_one (ds_set (ps_set (i := 1) sc__law_column.nd rfl (Or.inl rfl) (dp_add rfl (dp_add rfl (dp_mul (dp_var (pv 1)) dp_int) dp_int) (dp_m1 (pe_index (dp_cal0 (by exact c_law_signs) (by exact hr) (by decide) (by exact tk) (by rfl)) (dp_var (pv 2))) drm_index))))))
      (dss_one (ds_ret (dp_var (pv 1))))))
theorem b__law_is_letters (T : Txt P K mg A) (c_law_signs : CalD P w K mg base (MM K Tb pn cs) 2 "_law_signs" [] s__law_signs) (f : Addr) (cdv : Value) (A0 : Around) (outer : List Env) (s0 : Shared) (H : Hp) (E : XK) (hr : Room 2 (A0.deeper (envOfC "_law_is_letters" (defScope (top 26)) s0.heap.objs.size f cdv))) :
    PSs (XC P w K mg base N__law_is_letters "_law_is_letters" (top 26) f cdv A0 outer s0 H E) (defBody (top 26)) (liftS (MM K Tb pn cs) (fun cls d _ H' => E cls d H') (t__law_is_letters K A cs)) := by
  have tk : Takes (XC P w K mg base N__law_is_letters "_law_is_letters" (top 26) f cdv A0 outer s0 H E) (fun cls d _ H => E cls d H) := takes_of rfl rfl rfl rfl
  have hp : PassesOwn (model P w) (XC P w K mg base N__law_is_letters "_law_is_letters" (top 26) f cdv A0 outer s0 H E).A (XC P w K mg base N__law_is_letters "_law_is_letters" (top 26) f cdv A0 outer s0 H E).env (XC P w K mg base N__law_is_letters "_law_is_letters" (top 26) f cdv A0 outer s0 H E).xe := passes_of rfl
  exact (dss_one (ds_ret (dp_cmp (op_notInX rfl) dr_notInX dp_bl (dp_lc (pe_lc (own := [("_law_sign", 1)]) rfl sc__law_is_letters.nd (di_list rfl (dp_bty (cl_list rfl) (drc_list rfl) (by rfl) T.n_list PyProof.Rows.boot_list (da_cons (dp_var (pv 0)) da_nil))) (blkOk_by (N := N__law_is_letters) (sc := defScope (top 26)) (by decide +kernel)) (fun s H C cl fp => dg_of (pg_name (i := 1) sc__law_is_letters.nd rfl (Or.inl rfl)) List.mem_cons_self) (fun s H C cl fp => by exact dts_nil) (fun s H C cl fp => by exact (dp_cmp (op_inX rfl) dr_inX (dp_m0 (pe_upper (dp_var (pv 1))) drm_upper) (dp_cal0 (by exact c_law_signs) (by exact hr) (by decide) (by exact LamX.takes0) (by rfl)) (by with_unfolding_all rfl))))) (by with_unfolding_all rfl))))
theorem b__law_mixed_case (T : Txt P K mg A) (c_law_draw : CalD P w K mg base (MM K Tb pn cs) 2 "_law_draw" ["_law_pen_here", "_law_span"] s__law_draw) (f : Addr) (cdv : Value) (A0 : Around) (outer : List Env) (s0 : Shared) (H : Hp) (E : XK) (hr : Room 2 (A0.deeper (envOfC "_law_mixed_case" (defScope (top 27)) s0.heap.objs.size f cdv))) :
    PSs (XC P w K mg base N__law_mixed_case "_law_mixed_case" (top 27) f cdv A0 outer s0 H E) (defBody (top 27)) (liftS (MM K Tb pn cs) (fun cls d _ H' => E cls d H') (t__law_mixed_case K A cs)) := by
  have tk : Takes (XC P w K mg base N__law_mixed_case "_law_mixed_case" (top 27) f cdv A0 outer s0 H E) (fun cls d _ H => E cls d H) := takes_of rfl rfl rfl rfl
  have hp : PassesOwn (model P w) (XC P w K mg base N__law_mixed_case "_law_mixed_case" (top 27) f cdv A0 outer s0 H E).A (XC P w K mg base N__law_mixed_case "_law_mixed_case" (top 27) f cdv A0 outer s0 H E).env (XC P w K mg base N__law_mixed_case "_law_mixed_case" (top 27) f cdv A0 outer s0 H E).xe := passes_of rfl
  exact (dss_cons (ds_set (ps_set (i := 2) sc__law_mixed_case.nd rfl (Or.inl rfl) (dp_str [])))
      (dss_cons (ds_for (vs := [3]) hp rfl (di_list rfl (dp_var (pv 1))) (dg_of (pg_name (i := 3) sc__law_mixed_case.nd rfl (Or.inl rfl)) List.mem_cons_self) (dss_one (ds_set (ps_set (i := 2) sc__law_mixed_case.nd rfl (Or.inl rfl) (dp_add rfl (dp_var (pv 2)) (dp_if (dt_cmp (op_eqX rfl (hu64 hr)) dr_eq (dp_cal (by exact c_law_draw) (by exact hr) (by decide) (by exact tk) (by rfl) (da_cons (dp_var (pv 0)) (da_cons dp_int da_nil))) dp_int (nomark _)) (dp_m0 (pe_lower (dp_var (pv 3))) drm_lower) (dp_var (pv 3))))))))
      (dss_one (ds_ret (dp_var (pv 2))))))
theorem told_ok {X : Cx} {W : WX} (T : Txt X.prog X.K X.mg A) (tk : Takes X W) {q : Str} (g : Addr) : LamX.GivesS X N__law_told "_law_told" (defScope (top 28)) g (.ref A.k_law_told) (defBody (top 28)) "_law_call" q (TTd (MM X.K Tb pn cs) (s_law_told A)) :=
  gives_D (M := MM X.K Tb pn cs) (fun f c σ δ fb => t__law_told X.K A f c q σ δ fb) (by decide) (fun s H f c σ δ fb act => (dss_cons (ds_set (ps_set (i := 1) sc_law_told.nd rfl (Or.inl rfl) (dp_tup (da_cons (dp_str [110, 111, 116, 104, 105, 110, 103]) da_nil))))
      (dss_cons (ds_try rfl rfl rfl sc_law_told.nd LamX.takes0 (fun W2 pn xe tk2 hp2 => by exact (dss_one (ds_set (ps_set (i := 1) sc_law_told.nd rfl (Or.inl rfl) (dp_tup (da_cons (dp_str [116, 111, 108, 100]) (da_cons (act W2 pn xe _ _ tk2) da_nil))))))) (HdsAs.cons (i := 2) rfl rfl ⟨rfl, by decide, .inl T.c_BadValue⟩ (fun a oe cls d pn hz hf => by exact (dss_one (ds_set (ps_set (i := 1) sc_law_told.nd rfl (Or.inl rfl) (dp_tup (da_cons (dp_str [66, 97, 100, 86, 97, 108, 117, 101]) (da_cons (dp_xf (pe_xf (by exact T.xf_BadValue) (by exact T.no_BadValue_value) hz hf (dp_var (pv 2)))) da_nil))))))) (HdsAs.cons (i := 2) rfl rfl ⟨rfl, by decide, .inl T.c_NotAName⟩ (fun a oe cls d pn hz hf => by exact (dss_one (ds_set (ps_set (i := 1) sc_law_told.nd rfl (Or.inl rfl) (dp_tup (da_cons (dp_str [78, 111, 116, 65, 78, 97, 109, 101]) (da_cons (dp_xf (pe_xf (by exact T.xf_NotAName) (by exact T.no_NotAName_name) hz hf (dp_var (pv 2)))) da_nil))))))) (HdsAs.cons (i := 2) rfl rfl ⟨rfl, by decide, .inl T.c_OffGrid⟩ (fun a oe cls d pn hz hf => by exact (dss_one (ds_set (ps_set (i := 1) sc_law_told.nd rfl (Or.inl rfl) (dp_tup (da_cons (dp_str [79, 102, 102, 71, 114, 105, 100]) (da_cons (dp_xf (pe_xf (by exact T.xf_OffGrid) (by exact T.no_OffGrid_row) hz hf (dp_var (pv 2)))) (da_cons (dp_xf (pe_xf (by exact T.xf_OffGrid) (by exact T.no_OffGrid_column) hz hf (dp_var (pv 2)))) da_nil)))))))) (HdsAs.cons (i := 2) rfl rfl ⟨rfl, by decide, .inl T.c_TooMany⟩ (fun a oe cls d pn hz hf => by exact (dss_one (ds_set (ps_set (i := 1) sc_law_told.nd rfl (Or.inl rfl) (dp_tup (da_cons (dp_str [84, 111, 111, 77, 97, 110, 121]) (da_cons (dp_xf (pe_xf (by exact T.xf_TooMany) (by exact T.no_TooMany_most) hz hf (dp_var (pv 2)))) da_nil))))))) HdsAs.nil)))))
      (dss_one (ds_ret (dp_var (pv 1))))))) (fun f c σ δ fb n qd h => p__law_told T h)
theorem b__law_column_drawn (T : Txt P K mg A) (c_law_draw : CalD P w K mg base (MM K Tb pn cs) 2 "_law_draw" ["_law_pen_here", "_law_span"] s__law_draw) (c_law_pick : CalD P w K mg base (MM K Tb pn cs) 3 "_law_pick" ["_law_pen_here", "_law_menu"] s__law_pick) (f : Addr) (cdv : Value) (A0 : Around) (outer : List Env) (s0 : Shared) (H : Hp) (E : XK) (hr : Room 3 (A0.deeper (envOfC "_law_column_drawn" (defScope (top 29)) s0.heap.objs.size f cdv))) :
    PSs (XC P w K mg base N__law_column_drawn "_law_column_drawn" (top 29) f cdv A0 outer s0 H E) (defBody (top 29)) (liftS (MM K Tb pn cs) (fun cls d _ H' => E cls d H') (t__law_column_drawn K A cs)) := by
  have tk : Takes (XC P w K mg base N__law_column_drawn "_law_column_drawn" (top 29) f cdv A0 outer s0 H E) (fun cls d _ H => E cls d H) := takes_of rfl rfl rfl rfl
  have hp : PassesOwn (model P w) (XC P w K mg base N__law_column_drawn "_law_column_drawn" (top 29) f cdv A0 outer s0 H E).A (XC P w K mg base N__law_column_drawn "_law_column_drawn" (top 29) f cdv A0 outer s0 H E).env (XC P w K mg base N__law_column_drawn "_law_column_drawn" (top 29) f cdv A0 outer s0 H E).xe := passes_of rfl
  exact (dss_cons (ds_if (dt_cmp (op_eqX rfl (hu64 hr)) dr_eq (dp_cal (by exact c_law_draw) (by exact hr) (by decide) (by exact tk) (by rfl) (da_cons (dp_var (pv 0)) (da_cons dp_int da_nil))) dp_int (nomark _)) (dss_one (ds_ret (dp_add rfl dp_int (dp_cal (by exact c_law_draw) (by exact hr) (by decide) (by exact tk) (by rfl) (da_cons (dp_var (pv 0)) (da_cons dp_int da_nil)))))) dss_nil)
      (dss_one (ds_ret (dp_bfn (call_max2 rfl) (drc_max) (by rfl) T.n_max PyProof.Rows.boot_max (da_cons dp_int (da_cons (dp_bfn (call_min2 rfl) (drc_min) (by rfl) T.n_min PyProof.Rows.boot_min (da_cons dp_int (da_cons (dp_sub (dp_add rfl (dp_cal (by exact c_law_pick) (by exact hr) (by decide) (by exact tk) (by rfl) (da_cons (dp_var (pv 0)) (da_cons (dp_lst (da_cons dp_int (da_cons dp_int (da_cons dp_int (da_cons dp_int (da_cons dp_int (da_cons dp_int (da_cons dp_int da_nil)))))))) da_nil))) (dp_cal (by exact c_law_draw) (by exact hr) (by decide) (by exact tk) (by rfl) (da_cons (dp_var (pv 0)) (da_cons dp_int da_nil)))) dp_int) da_nil))) da_nil))))))
theorem b__law_letters_right (T : Txt P K mg A) (c_law_is_letters : CalD P w K mg base (MM K Tb pn cs) 3 "_law_is_letters" ["_law_text"] s__law_is_letters) (c_law_letters : CalD P w K mg base (MM K Tb pn cs) 3 "_law_letters" ["_law_column_here"] s__law_letters) (c_law_mixed_case : CalD P w K mg base (MM K Tb pn cs) 3 "_law_mixed_case" ["_law_pen_here", "_law_text"] s__law_mixed_case) (c_law_signs : CalD P w K mg base (MM K Tb pn cs) 2 "_law_signs" [] s__law_signs) (ccolumn_of : CalD P w K mg base (MM K Tb pn cs) 4 "column_of" ["letters"] (s_column_of A)) (cletters_of : CalD P w K mg base (MM K Tb pn cs) 4 "letters_of" ["column"] (s_letters_of A)) (f : Addr) (cdv : Value) (A0 : Around) (outer : List Env) (s0 : Shared) (H : Hp) (E : XK) (hr : Room 4 (A0.deeper (envOfC "_law_letters_right" (defScope (top 30)) s0.heap.objs.size f cdv))) :
    PSs (XC P w K mg base N__law_letters_right "_law_letters_right" (top 30) f cdv A0 outer s0 H E) (defBody (top 30)) (liftS (MM K Tb pn cs) (fun cls d _ H' => E cls d H') (t__law_letters_right K A cs)) := by
  have tk : Takes (XC P w K mg base N__law_letters_right "_law_letters_right" (top 30) f cdv A0 outer s0 H E) (fun cls d _ H => E cls d H) := takes_of rfl rfl rfl rfl
  have hp : PassesOwn (model P w) (XC P w K mg base N__law_letters_right "_law_letters_right" (top 30) f cdv A0 outer s0 H E).A (XC P w K mg base N__law_letters_right "_law_letters_right" (top 30) f cdv A0 outer s0 H E).env (XC P w K mg base N__law_letters_right "_law_letters_right" (top 30) f cdv A0 outer s0 H E).xe := passes_of rfl
  exact (dss_cons (ds_set (ps_set (i := 2) sc__law_letters_right.nd rfl (Or.inl rfl) (dp_cal (by exact cletters_of) (by exact hr) (by decide) (by exact tk) (by rfl) (da_cons (dp_var (pv 1)) da_nil))))
      (dss_cons (ds_if (dt_w (dw_or (dt_not (dt_val (dp_bfn (call_isi) (drc_isi rfl) (by rfl) T.n_isinstance PyProof.Rows.boot_isinstance (da_cons (dp_var (pv 2)) (da_cons (dp_ty (by rfl) (by exact T.n_str) PyProof.Rows.boot_str) da_nil))))) (dw_or (dt_cmp (op_neX rfl (hu64 hr)) dr_ne (dp_var (pv 2)) (dp_cal (by exact c_law_letters) (by exact hr) (by decide) (by exact tk) (by rfl) (da_cons (dp_var (pv 1)) da_nil)) (nomark _)) (dw_or1 (dt_not (dt_val (dp_cal (by exact c_law_is_letters) (by exact hr) (by decide) (by exact tk) (by rfl) (da_cons (dp_var (pv 2)) da_nil)))))))) (dss_one (ds_ret dp_bl)) dss_nil)
      (dss_cons (ds_if (dt_w (dw_or (dt_cmp (op_neX rfl (hu64 hr)) dr_ne (dp_bfn (call_len) (drc_len rfl) (by rfl) T.n_len PySem.boot_len (da_cons (dp_var (pv 2)) da_nil)) (dp_add rfl (dp_add rfl dp_int (dp_bty (call_int1) (drc_int) (by rfl) T.n_int PyProof.Rows.boot_int (da_cons (dp_cmp op_gtX dr_ord (dp_var (pv 1)) dp_int (nomark _)) da_nil))) (dp_bty (call_int1) (drc_int) (by rfl) T.n_int PyProof.Rows.boot_int (da_cons (dp_cmp op_gtX dr_ord (dp_var (pv 1)) dp_int (nomark _)) da_nil))) (nomark _)) (dw_or1 (dt_cmp (op_neX rfl (hu64 hr)) dr_ne (dp_m0 (pe_upper (dp_var (pv 2))) drm_upper) (dp_var (pv 2)) (nomark _))))) (dss_one (ds_ret dp_bl)) dss_nil)
      (dss_cons (ds_if (dt_w (dw_and (dt_cmp op_ltX dr_ord (dp_var (pv 1)) dp_int (nomark _)) (dw_and1 (dt_cmp (op_neX rfl (hu64 hr)) dr_ne (dp_ix rfl (dp_var (pv 2)) (dp_neg dp_int)) (dp_str [90]) (nomark _))))) (dss_cons (ds_set (ps_set (i := 3) sc__law_letters_right.nd rfl (Or.inl rfl) (dp_add rfl (dp_slice (pe_slice (sl_X rfl) (dp_var (pv 2)) do_none (do_some (dp_neg dp_int)))) (dp_ix rfl (dp_cal0 (by exact c_law_signs) (by exact hr) (by decide) (by exact tk) (by rfl)) (dp_add rfl (dp_m1 (pe_index (dp_cal0 (by exact c_law_signs) (by exact hr) (by decide) (by exact tk) (by rfl)) (dp_ix rfl (dp_var (pv 2)) (dp_neg dp_int))) drm_index) dp_int)))))
      (dss_one (ds_if (dt_cmp (op_neX rfl (hu64 hr)) dr_ne (dp_cal (by exact cletters_of) (by exact hr) (by decide) (by exact tk) (by rfl) (da_cons (dp_add rfl (dp_var (pv 1)) dp_int) da_nil)) (dp_var (pv 3)) (nomark _)) (dss_one (ds_ret dp_bl)) dss_nil))) dss_nil)
      (dss_cons (ds_set (ps_set (i := 4) sc__law_letters_right.nd rfl (Or.inl rfl) (dp_cal (by exact ccolumn_of) (by exact hr) (by decide) (by exact tk) (by rfl) (da_cons (dp_cal (by exact c_law_mixed_case) (by exact hr) (by decide) (by exact tk) (by rfl) (da_cons (dp_var (pv 0)) (da_cons (dp_var (pv 2)) da_nil))) da_nil))))
      (dss_one (ds_ret (dp_and (dp_cmp (op_eqX rfl (hu64 hr)) dr_eq (dp_var (pv 4)) (dp_var (pv 1)) (nomark _)) (dp_and (dp_bfn (call_isi) (drc_isi rfl) (by rfl) T.n_isinstance PyProof.Rows.boot_isinstance (da_cons (dp_var (pv 4)) (da_cons (dp_ty (by rfl) (by exact T.n_int) PyProof.Rows.boot_int) da_nil))) (dp_one (dp_not (dp_bfn (call_isi) (drc_isi rfl) (by rfl) T.n_isinstance PyProof.Rows.boot_isinstance (da_cons (dp_var (pv 4)) (da_cons (dp_ty (by rfl) (by exact T.n_bool) PyProof.Rows.boot_bool) da_nil))))))))))))))
theorem b__law_word_right (T : Txt P K mg A) (c_law_column : CalD P w K mg base (MM K Tb pn cs) 3 "_law_column" ["_law_letters_here"] s__law_column) (c_law_draw : CalD P w K mg base (MM K Tb pn cs) 2 "_law_draw" ["_law_pen_here", "_law_span"] s__law_draw) (c_law_is_letters : CalD P w K mg base (MM K Tb pn cs) 3 "_law_is_letters" ["_law_text"] s__law_is_letters) (c_law_pick : CalD P w K mg base (MM K Tb pn cs) 3 "_law_pick" ["_law_pen_here", "_law_menu"] s__law_pick) (c_law_signs : CalD P w K mg base (MM K Tb pn cs) 2 "_law_signs" [] s__law_signs) (ccolumn_of : CalD P w K mg base (MM K Tb pn cs) 4 "column_of" ["letters"] (s_column_of A)) (TB : LamX.TabB base mg A.k_law_word_right A.p_law_word_right) (TM : (A.p_law_word_right, (("_law_word_right" : Str) ++ ".<locals>." ++ "<lambda>")) ∈ Tb) (TU : ∀ p ∈ Tb, p.1 = A.p_law_word_right → p.2 = (("_law_word_right" : Str) ++ ".<locals>." ++ "<lambda>")) (f : Addr) (A0 : Around) (outer : List Env) (s0 : Shared) (H : Hp) (E : XK) (hr : Room 6 (A0.deeper (envOfC "_law_word_right" (defScope (top 31)) s0.heap.objs.size f (.ref A.k_law_word_right)))) :
    PSs (XC P w K mg base N__law_word_right "_law_word_right" (top 31) f (.ref A.k_law_word_right) A0 outer s0 H E) (defBody (top 31)) (liftS (MM K Tb pn cs) (fun cls d _ H' => E cls d H') (t__law_word_right K A cs)) := by
  have tk : Takes (XC P w K mg base N__law_word_right "_law_word_right" (top 31) f (.ref A.k_law_word_right) A0 outer s0 H E) (fun cls d _ H => E cls d H) := takes_of rfl rfl rfl rfl
  have hp : PassesOwn (model P w) (XC P w K mg base N__law_word_right "_law_word_right" (top 31) f (.ref A.k_law_word_right) A0 outer s0 H E).A (XC P w K mg base N__law_word_right "_law_word_right" (top 31) f (.ref A.k_law_word_right) A0 outer s0 H E).env (XC P w K mg base N__law_word_right "_law_word_right" (top 31) f (.ref A.k_law_word_right) A0 outer s0 H E).xe := passes_of rfl
  exact (dss_cons (ds_asg (vs := [1, 2]) (ps_asg (dp_tup (da_cons (dp_str []) (da_cons (dp_bty (cl_list rfl) (drc_list rfl) (by rfl) T.n_list PyProof.Rows.boot_list (da_cons (dp_add rfl (dp_cal0 (by exact c_law_signs) (by exact hr) (by decide) (by exact tk) (by rfl)) (dp_str [97, 98, 99, 120, 121, 122])) da_nil)) da_nil))) (dg_tup rfl rfl (dgs_cons (dg_of (pg_name (i := 1) sc__law_word_right.nd rfl (Or.inr rfl)) List.mem_cons_self) (dgs_cons (dg_of (pg_name (i := 2) sc__law_word_right.nd rfl (Or.inl rfl)) (List.mem_cons_of_mem _ List.mem_cons_self)) dgs_nil)))))
      (dss_cons (ds_if (dt_cmp (op_eqX rfl (hu64 hr)) dr_eq (dp_cal (by exact c_law_draw) (by exact hr) (by decide) (by exact tk) (by rfl) (da_cons (dp_var (pv 0)) (da_cons dp_int da_nil))) dp_int (nomark _)) (dss_one (ds_set (ps_set (i := 2) sc__law_word_right.nd rfl (Or.inl rfl) (dp_add rfl (dp_var (pv 2)) (dp_bty (cl_list rfl) (drc_list rfl) (by rfl) T.n_list PyProof.Rows.boot_list (da_cons (dp_str [36, 49, 32, 95, 45, 33, 123, 64, 91]) da_nil)))))) dss_nil)
      (dss_cons (ds_for (vs := [3]) hp rfl (di_range1 (pi_range1 (by rfl) T.n_range (da_cons (dp_cal (by exact c_law_draw) (by exact hr) (by decide) (by exact tk) (by rfl) (da_cons (dp_var (pv 0)) (da_cons dp_int da_nil))) da_nil))) (dg_of (pg_name (i := 3) sc__law_word_right.nd rfl (Or.inl rfl)) List.mem_cons_self) (dss_one (ds_set (ps_set (i := 1) sc__law_word_right.nd rfl (Or.inr rfl) (dp_add rfl (dp_var (pv 1)) (dp_cal (by exact c_law_pick) (by exact hr) (by decide) (by exact tk) (by rfl) (da_cons (dp_var (pv 0)) (da_cons (dp_var (pv 2)) da_nil))))))))
      (dss_cons (ds_set (ps_set (i := 4) sc__law_word_right.nd rfl (Or.inl rfl) (dp_tup (da_cons (dp_str [78, 111, 116, 65, 78, 97, 109, 101]) (da_cons (dp_var (pv 1)) da_nil)))))
      (dss_cons (ds_if (dt_w (dw_and (dt_chain op_leX dr_ord op_leX dr_ord dp_int (dp_bfn (call_len) (drc_len rfl) (by rfl) T.n_len PySem.boot_len (da_cons (dp_var (pv 1)) da_nil)) dp_int) (dw_and1 (dt_val (dp_cal (by exact c_law_is_letters) (by exact hr) (by decide) (by exact tk) (by rfl) (da_cons (dp_var (pv 1)) da_nil)))))) (dss_one (ds_set (ps_set (i := 4) sc__law_word_right.nd rfl (Or.inl rfl) (dp_tup (da_cons (dp_str [116, 111, 108, 100]) (da_cons (dp_cal (by exact c_law_column) (by exact hr) (by decide) (by exact tk) (by rfl) (da_cons (dp_var (pv 1)) da_nil)) da_nil)))))) dss_nil)
      (dss_one (ds_ret (dp_cmp (op_eqX rfl (hu64 hr)) dr_eq (dp_told (k := 4) T.d_law_told sc_law_told (by rfl) (by exact Or.inl rfl) (fun g => told_ok T (tk := tk) g) TB (by rfl) TM TU (hr.mono (by decide)) (LamX.lamS_by (sc := defScope (top 31)) (by decide +kernel)) (by rfl) (by exact fun _ _ _ _ _ => rfl) (fun A2 outer2 s2 H2 E2 f2 c2 hr2 => by exact (dp_cal (by exact ccolumn_of) (by exact hr2) (by decide) (by exact (takes_of rfl rfl rfl rfl)) (by rfl) (da_cons (dp_var (pv 1)) da_nil)))) (dp_var (pv 4)) (nomark _)))))))))
theorem b__law_refused_right (T : Txt P K mg A) (c_law_pick : CalD P w K mg base (MM K Tb pn cs) 3 "_law_pick" ["_law_pen_here", "_law_menu"] s__law_pick) (ccolumn_of : CalD P w K mg base (MM K Tb pn cs) 4 "column_of" ["letters"] (s_column_of A)) (cletters_of : CalD P w K mg base (MM K Tb pn cs) 4 "letters_of" ["column"] (s_letters_of A)) (TB : LamX.TabB base mg A.k_law_refused_right A.p_law_refused_right) (TM : (A.p_law_refused_right, (("_law_refused_right" : Str) ++ ".<locals>." ++ "<lambda>")) ∈ Tb) (TU : ∀ p ∈ Tb, p.1 = A.p_law_refused_right → p.2 = (("_law_refused_right" : Str) ++ ".<locals>." ++ "<lambda>")) (f : Addr) (A0 : Around) (outer : List Env) (s0 : Shared) (H : Hp) (E : XK) (hr : Room 6 (A0.deeper (envOfC "_law_refused_right" (defScope (top 32)) s0.heap.objs.size f (.ref A.k_law_refused_right)))) :
    PSs (XC P w K mg base N__law_refused_right "_law_refused_right" (top 32) f (.ref A.k_law_refused_right) A0 outer s0 H E) (defBody (top 32)) (liftS (MM K Tb pn cs) (fun cls d _ H' => E cls d H') (t__law_refused_right K A cs)) := by
  have tk : Takes (XC P w K mg base N__law_refused_right "_law_refused_right" (top 32) f (.ref A.k_law_refused_right) A0 outer s0 H E) (fun cls d _ H => E cls d H) := takes_of rfl rfl rfl rfl
  have hp : PassesOwn (model P w) (XC P w K mg base N__law_refused_right "_law_refused_right" (top 32) f (.ref A.k_law_refused_right) A0 outer s0 H E).A (XC P w K mg base N__law_refused_right "_law_refused_right" (top 32) f (.ref A.k_law_refused_right) A0 outer s0 H E).env (XC P w K mg base N__law_refused_right "_law_refused_right" (top 32) f (.ref A.k_law_refused_right) A0 outer s0 H E).xe := passes_of rfl
  exact (dss_cons (ds_set (ps_set (i := 1) sc__law_refused_right.nd rfl (Or.inr rfl) (dp_cal (by exact c_law_pick) (by exact hr) (by decide) (by exact tk) (by rfl) (da_cons (dp_var (pv 0)) (da_cons (dp_lst (da_cons dp_int (da_cons dp_int (da_cons (dp_neg dp_int) (da_cons (dp_add rfl dp_int (dp_pow dp_int dp_int)) (da_cons dp_bl (da_cons dp_bl (da_cons dp_non (da_cons (dp_str [65]) (da_cons (dp_str [49]) (da_cons (dp_lst (da_cons dp_int da_nil)) (da_cons (dp_tup (da_cons dp_int da_nil)) da_nil)))))))))))) da_nil)))))
      (dss_cons (ds_if (dt_cmp (op_neX rfl (hu64 hr)) dr_ne (dp_told (k := 4) T.d_law_told sc_law_told (by rfl) (by exact Or.inl rfl) (fun g => told_ok T (tk := tk) g) TB (by rfl) TM TU (hr.mono (by decide)) (LamX.lamS_by (sc := defScope (top 32)) (by decide +kernel)) (by rfl) (by exact fun _ _ _ _ _ => rfl) (fun A2 outer2 s2 H2 E2 f2 c2 hr2 => by exact (dp_cal (by exact cletters_of) (by exact hr2) (by decide) (by exact (takes_of rfl rfl rfl rfl)) (by rfl) (da_cons (dp_var (pv 1)) da_nil)))) (dp_tup (da_cons (dp_str [66, 97, 100, 86, 97, 108, 117, 101]) (da_cons (dp_var (pv 1)) da_nil))) (nomark _)) (dss_one (ds_ret dp_bl)) dss_nil)
      (dss_cons (ds_set (ps_set (i := 2) sc__law_refused_right.nd rfl (Or.inr rfl) (dp_cal (by exact c_law_pick) (by exact hr) (by decide) (by exact tk) (by rfl) (da_cons (dp_var (pv 0)) (da_cons (dp_lst (da_cons dp_int (da_cons dp_int (da_cons dp_non (da_cons dp_bl (da_cons (dp_lst (da_cons (dp_str [65]) da_nil)) (da_cons (dp_tup (da_cons (dp_str [65]) da_nil)) (da_cons dp_int da_nil)))))))) da_nil)))))
      (dss_cons (ds_if (dt_cmp (op_neX rfl (hu64 hr)) dr_ne (dp_told (k := 4) T.d_law_told sc_law_told (by rfl) (by exact Or.inl rfl) (fun g => told_ok T (tk := tk) g) TB (by rfl) TM TU (hr.mono (by decide)) (LamX.lamS_by (sc := defScope (top 32)) (by decide +kernel)) (by rfl) (by exact fun _ _ _ _ _ => rfl) (fun A2 outer2 s2 H2 E2 f2 c2 hr2 => by exact (dp_cal (by exact ccolumn_of) (by exact hr2) (by decide) (by exact (takes_of rfl rfl rfl rfl)) (by rfl) (da_cons (dp_var (pv 2)) da_nil)))) (dp_tup (da_cons (dp_str [66, 97, 100, 86, 97, 108, 117, 101]) (da_cons (dp_var (pv 2)) da_nil))) (nomark _)) (dss_one (ds_ret dp_bl)) dss_nil)
      (dss_cons (ds_set (ps_set (i := 3) sc__law_refused_right.nd rfl (Or.inl rfl) dp_bl))
      (dss_cons (ds_try rfl rfl rfl sc__law_refused_right.nd tk (fun W2 pn xe tk2 hp2 => by exact (dss_one (ds_expr (dp_cal (by exact ccolumn_of) (by exact hr) (by decide) (by exact tk2) (by rfl) (da_cons (dp_str []) da_nil))))) (HdsAs.cons (i := 4) rfl rfl ⟨rfl, by decide, .inl T.c_SheetError⟩ (fun a oe cls d pn hz hf => by exact (dss_one (ds_set (ps_set (i := 3) sc__law_refused_right.nd rfl (Or.inl rfl) (dp_and (dp_bfn (by exact call_isED hz hf) drc_isE (by rfl) (by exact T.n_isinstance) PyProof.Rows.boot_isinstance (da_cons (dp_var (pv 4)) (da_cons (dp_cls (by rfl) (by exact T.c_NotAName)) da_nil))) (dp_and (dp_bfn (by exact call_isED hz hf) drc_isE (by rfl) (by exact T.n_isinstance) PyProof.Rows.boot_isinstance (da_cons (dp_var (pv 4)) (da_cons (dp_ty (by rfl) (by exact T.n_ValueError) boot_ValueError) da_nil))) (dp_one (dp_not (dp_bfn (by exact call_isED hz hf) drc_isE (by rfl) (by exact T.n_isinstance) PyProof.Rows.boot_isinstance (da_cons (dp_var (pv 4)) (da_cons (dp_cls (by rfl) (by exact T.c_BadValue)) da_nil))))))))))) HdsAs.nil))
      (dss_one (ds_ret (dp_var (pv 3))))))))))
theorem b_law (T : Txt P K mg A) (c_law_column_drawn : CalD P w K mg base (MM K Tb pn cs) 4 "_law_column_drawn" ["_law_pen_here"] s__law_column_drawn) (c_law_letters_right : CalD P w K mg base (MM K Tb pn cs) 5 "_law_letters_right" ["_law_pen_here", "_law_column_here"] s__law_letters_right) (c_law_refused_right : CalD P w K mg base (MM K Tb pn cs) 7 "_law_refused_right" ["_law_pen_here"] s__law_refused_right) (c_law_word_right : CalD P w K mg base (MM K Tb pn cs) 7 "_law_word_right" ["_law_pen_here"] s__law_word_right) (f : Addr) (cdv : Value) (A0 : Around) (outer : List Env) (s0 : Shared) (H : Hp) (E : XK) (hr : Room 7 (A0.deeper (envOfC "law" (defScope (top 33)) s0.heap.objs.size f cdv))) :
    PSs (XC P w K mg base N_law "law" (top 33) f cdv A0 outer s0 H E) ((defBody (top 33)).drop 1) (liftS (MM K Tb pn cs) (fun cls d _ H' => E cls d H') (t_law K A cs)) := by
  have tk : Takes (XC P w K mg base N_law "law" (top 33) f cdv A0 outer s0 H E) (fun cls d _ H => E cls d H) := takes_of rfl rfl rfl rfl
  have hp : PassesOwn (model P w) (XC P w K mg base N_law "law" (top 33) f cdv A0 outer s0 H E).A (XC P w K mg base N_law "law" (top 33) f cdv A0 outer s0 H E).env (XC P w K mg base N_law "law" (top 33) f cdv A0 outer s0 H E).xe := passes_of rfl
  exact (dss_cons (ds_for (vs := [2]) hp rfl (di_range1 (pi_range1 (by rfl) T.n_range (da_cons dp_int da_nil))) (dg_of (pg_name (i := 2) sc_law.nd rfl (Or.inl rfl)) List.mem_cons_self) (dss_one (ds_if (dt_w (dw_or (dt_not (dt_val (dp_cal (by exact c_law_letters_right) (by exact hr) (by decide) (by exact tk) (by rfl) (da_cons (dp_var (pv 1)) (da_cons (dp_cal (by exact c_law_column_drawn) (by exact hr) (by decide) (by exact tk) (by rfl) (da_cons (dp_var (pv 1)) da_nil)) da_nil))))) (dw_or1 (dt_not (dt_val (dp_cal (by exact c_law_word_right) (by exact hr) (by decide) (by exact tk) (by rfl) (da_cons (dp_var (pv 1)) da_nil))))))) (dss_one (ds_ret dp_bl)) dss_nil)))
      (dss_one (ds_ret (dp_cal (by exact c_law_refused_right) (by exact hr) (by decide) (by exact tk) (by rfl) (da_cons (dp_var (pv 1)) da_nil)))))
end
end K15

set_option Elab.async false
set_option linter.all false
set_option maxRecDepth 100000
set_option maxHeartbeats 8000000
set_option autoImplicit false
namespace K15
open PySem PySem.Spec PyProof.Rows L2 DL
section
variable {P : Program} {w : World} {K : PySem.W.Frag} {mg : Str → Option Value} {base : Heap} {A : Ad} {pn : Addr} {cs : List Int} {Tb : List (Addr × Str)}
theorem cal_is_integer (T : Txt P K mg A) (D : DefT K mg "is_integer" (top 7) ["value"])  : CalD P w K mg base (MM K Tb pn cs) 2 "is_integer" ["value"] s_is_integer :=
  CalD.of (M := MM K Tb pn cs) D sc_is_integer (t_is_integer K A cs) (fun f cdv A0 outer s0 H E hr => b_is_integer T  f cdv A0 outer s0 H E hr) (fun ds n q e hl h => p_is_integer ds n q e hl h)
theorem cal_need_between (T : Txt P K mg A) (D : DefT K mg "need_between" (top 8) ["value", "least", "most"]) (cis_integer : CalD P w K mg base (MM K Tb pn cs) 2 "is_integer" ["value"] s_is_integer) : CalD P w K mg base (MM K Tb pn cs) 3 "need_between" ["value", "least", "most"] (s_need_between A) :=
  CalD.of (M := MM K Tb pn cs) D sc_need_between (t_need_between K A cs) (fun f cdv A0 outer s0 H E hr => b_need_between T cis_integer f cdv A0 outer s0 H E hr) (fun ds n q e hl h => p_need_between ds n q e hl h)
theorem cal_need_any_string (T : Txt P K mg A) (D : DefT K mg "need_any_string" (top 9) ["value"])  : CalD P w K mg base (MM K Tb pn cs) 2 "need_any_string" ["value"] (s_need_any_string A) :=
  CalD.of (M := MM K Tb pn cs) D sc_need_any_string (t_need_any_string K A cs) (fun f cdv A0 outer s0 H E hr => b_need_any_string T  f cdv A0 outer s0 H E hr) (fun ds n q e hl h => p_need_any_string ds n q e hl h)
theorem cal_is_letter (T : Txt P K mg A) (D : DefT K mg "is_letter" (top 11) ["sign"])  : CalD P w K mg base (MM K Tb pn cs) 2 "is_letter" ["sign"] s_is_letter :=
  CalD.of (M := MM K Tb pn cs) D sc_is_letter (t_is_letter K A cs) (fun f cdv A0 outer s0 H E hr => b_is_letter T  f cdv A0 outer s0 H E hr) (fun ds n q e hl h => p_is_letter ds n q e hl h)
theorem cal_column_letters (T : Txt P K mg A) (D : DefT K mg "column_letters" (top 15) ["column"])  : CalD P w K mg base (MM K Tb pn cs) 2 "column_letters" ["column"] s_column_letters :=
  CalD.of (M := MM K Tb pn cs) D sc_column_letters (t_column_letters K A cs) (fun f cdv A0 outer s0 H E hr => b_column_letters T  f cdv A0 outer s0 H E hr) (fun ds n q e hl h => p_column_letters ds n q e hl h)
theorem cal_column_number (T : Txt P K mg A) (D : DefT K mg "column_number" (top 16) ["letters"]) (cis_letter : CalD P w K mg base (MM K Tb pn cs) 2 "is_letter" ["sign"] s_is_letter) : CalD P w K mg base (MM K Tb pn cs) 3 "column_number" ["letters"] s_column_number :=
  CalD.of (M := MM K Tb pn cs) D sc_column_number (t_column_number K A cs) (fun f cdv A0 outer s0 H E hr => b_column_number T cis_letter f cdv A0 outer s0 H E hr) (fun ds n q e hl h => p_column_number ds n q e hl h)
theorem cal_letters_of (T : Txt P K mg A) (D : DefT K mg "letters_of" (top 17) ["column"]) (ccolumn_letters : CalD P w K mg base (MM K Tb pn cs) 2 "column_letters" ["column"] s_column_letters) (cneed_between : CalD P w K mg base (MM K Tb pn cs) 3 "need_between" ["value", "least", "most"] (s_need_between A)) : CalD P w K mg base (MM K Tb pn cs) 4 "letters_of" ["column"] (s_letters_of A) :=
  CalD.of (M := MM K Tb pn cs) D sc_letters_of (t_letters_of K A cs) (fun f cdv A0 outer s0 H E hr => b_letters_of T ccolumn_letters cneed_between f cdv A0 outer s0 H E hr) (fun ds n q e hl h => p_letters_of ds n q e hl h)
theorem cal_column_of (T : Txt P K mg A) (D : DefT K mg "column_of" (top 18) ["letters"]) (ccolumn_number : CalD P w K mg base (MM K Tb pn cs) 3 "column_number" ["letters"] s_column_number) (cneed_any_string : CalD P w K mg base (MM K Tb pn cs) 2 "need_any_string" ["value"] (s_need_any_string A)) : CalD P w K mg base (MM K Tb pn cs) 4 "column_of" ["letters"] (s_column_of A) :=
  CalD.of (M := MM K Tb pn cs) D sc_column_of (t_column_of K A cs) (fun f cdv A0 outer s0 H E hr => b_column_of T ccolumn_number cneed_any_string f cdv A0 outer s0 H E hr) (fun ds n q e hl h => p_column_of ds n q e hl h)
theorem cal__law_draw (T : Txt P K mg A) (D : DefT K mg "_law_draw" (top 21) ["_law_pen_here", "_law_span"])  : CalD P w K mg base (MM K Tb pn cs) 2 "_law_draw" ["_law_pen_here", "_law_span"] s__law_draw :=
  CalD.of (M := MM K Tb pn cs) D sc__law_draw (t__law_draw K A cs) (fun f cdv A0 outer s0 H E hr => b__law_draw T  f cdv A0 outer s0 H E hr) (fun ds n q e hl h => p__law_draw ds n q e hl h)
theorem cal__law_pick (T : Txt P K mg A) (D : DefT K mg "_law_pick" (top 22) ["_law_pen_here", "_law_menu"]) (c_law_draw : CalD P w K mg base (MM K Tb pn cs) 2 "_law_draw" ["_law_pen_here", "_law_span"] s__law_draw) : CalD P w K mg base (MM K Tb pn cs) 3 "_law_pick" ["_law_pen_here", "_law_menu"] s__law_pick :=
  CalD.of (M := MM K Tb pn cs) D sc__law_pick (t__law_pick K A cs) (fun f cdv A0 outer s0 H E hr => b__law_pick T c_law_draw f cdv A0 outer s0 H E hr) (fun ds n q e hl h => p__law_pick ds n q e hl h)
theorem cal__law_signs (T : Txt P K mg A) (D : DefT K mg "_law_signs" (top 23) [])  : CalD P w K mg base (MM K Tb pn cs) 2 "_law_signs" [] s__law_signs :=
  CalD.of (M := MM K Tb pn cs) D sc__law_signs (t__law_signs K A cs) (fun f cdv A0 outer s0 H E hr => b__law_signs T  f cdv A0 outer s0 H E hr) (fun ds n q e hl h => p__law_signs ds n q e hl h)
theorem cal__law_letters (T : Txt P K mg A) (D : DefT K mg "_law_letters" (top 24) ["_law_column_here"]) (c_law_signs : CalD P w K mg base (MM K Tb pn cs) 2 "_law_signs" [] s__law_signs) : CalD P w K mg base (MM K Tb pn cs) 3 "_law_letters" ["_law_column_here"] s__law_letters :=
  CalD.of (M := MM K Tb pn cs) D sc__law_letters (t__law_letters K A cs) (fun f cdv A0 outer s0 H E hr => b__law_letters T c_law_signs f cdv A0 outer s0 H E hr) (fun ds n q e hl h => p__law_letters ds n q e hl h)
theorem cal__law_column (T : Txt P K mg A) (D : DefT K mg "_law_column" (top 25) ["_law_letters_here"]) (c_law_signs : CalD P w K mg base (MM K Tb pn cs) 2 "_law_signs" [] s__law_signs) : CalD P w K mg base (MM K Tb pn cs) 3 "_law_column" ["_law_letters_here"] s__law_column :=
  CalD.of (M := MM K Tb pn cs) D sc__law_column (t__law_column K A cs) (fun f cdv A0 outer s0 H E hr => b__law_column T c_law_signs f cdv A0 outer s0 H E hr) (fun ds n q e hl h => p__law_column ds n q e hl h)
theorem cal__law_is_letters (T : Txt P K mg A) (D : DefT K mg "_law_is_letters" (top 26) ["_law_text"]) (c_law_signs : CalD P w K mg base (MM K Tb pn cs) 2 "_law_signs" [] s__law_signs) : CalD P w K mg base (MM K Tb pn cs) 3 "_law_is_letters" ["_law_text"] s__law_is_letters :=
  CalD.of (M := MM K Tb pn cs) D sc__law_is_letters (t__law_is_letters K A cs) (fun f cdv A0 outer s0 H E hr => b__law_is_letters T c_law_signs f cdv A0 outer s0 H E hr) (fun ds n q e hl h => p__law_is_letters ds n q e hl h)
theorem cal__law_mixed_case (T : Txt P K mg A) (D : DefT K mg "_law_mixed_case" (top 27) ["_law_pen_here", "_law_text"]) (c_law_draw : CalD P w K mg base (MM K Tb pn cs) 2 "_law_draw" ["_law_pen_here", "_law_span"] s__law_draw) : CalD P w K mg base (MM K Tb pn cs) 3 "_law_mixed_case" ["_law_pen_here", "_law_text"] s__law_mixed_case :=
  CalD.of (M := MM K Tb pn cs) D sc__law_mixed_case (t__law_mixed_case K A cs) (fun f cdv A0 outer s0 H E hr => b__law_mixed_case T c_law_draw f cdv A0 outer s0 H E hr) (fun ds n q e hl h => p__law_mixed_case ds n q e hl h)
theorem cal__law_column_drawn (T : Txt P K mg A) (D : DefT K mg "_law_column_drawn" (top 29) ["_law_pen_here"]) (c_law_draw : CalD P w K mg base (MM K Tb pn cs) 2 "_law_draw" ["_law_pen_here", "_law_span"] s__law_draw) (c_law_pick : CalD P w K mg base (MM K Tb pn cs) 3 "_law_pick" ["_law_pen_here", "_law_menu"] s__law_pick) : CalD P w K mg base (MM K Tb pn cs) 4 "_law_column_drawn" ["_law_pen_here"] s__law_column_drawn :=
  CalD.of (M := MM K Tb pn cs) D sc__law_column_drawn (t__law_column_drawn K A cs) (fun f cdv A0 outer s0 H E hr => b__law_column_drawn T c_law_draw c_law_pick f cdv A0 outer s0 H E hr) (fun ds n q e hl h => p__law_column_drawn ds n q e hl h)
theorem cal__law_letters_right (T : Txt P K mg A) (D : DefT K mg "_law_letters_right" (top 30) ["_law_pen_here", "_law_column_here"]) (c_law_is_letters : CalD P w K mg base (MM K Tb pn cs) 3 "_law_is_letters" ["_law_text"] s__law_is_letters) (c_law_letters : CalD P w K mg base (MM K Tb pn cs) 3 "_law_letters" ["_law_column_here"] s__law_letters) (c_law_mixed_case : CalD P w K mg base (MM K Tb pn cs) 3 "_law_mixed_case" ["_law_pen_here", "_law_text"] s__law_mixed_case) (c_law_signs : CalD P w K mg base (MM K Tb pn cs) 2 "_law_signs" [] s__law_signs) (ccolumn_of : CalD P w K mg base (MM K Tb pn cs) 4 "column_of" ["letters"] (s_column_of A)) (cletters_of : CalD P w K mg base (MM K Tb pn cs) 4 "letters_of" ["column"] (s_letters_of A)) : CalD P w K mg base (MM K Tb pn cs) 5 "_law_letters_right" ["_law_pen_here", "_law_column_here"] s__law_letters_right :=
  CalD.of (M := MM K Tb pn cs) D sc__law_letters_right (t__law_letters_right K A cs) (fun f cdv A0 outer s0 H E hr => b__law_letters_right T c_law_is_letters c_law_letters c_law_mixed_case c_law_signs ccolumn_of cletters_of f cdv A0 outer s0 H E hr) (fun ds n q e hl h => p__law_letters_right ds n q e hl h)
theorem cal__law_word_right (T : Txt P K mg A) (D : DefC K mg "_law_word_right" (top 31) ["_law_pen_here"] A.k_law_word_right) (c_law_column : CalD P w K mg base (MM K Tb pn cs) 3 "_law_column" ["_law_letters_here"] s__law_column) (c_law_draw : CalD P w K mg base (MM K Tb pn cs) 2 "_law_draw" ["_law_pen_here", "_law_span"] s__law_draw) (c_law_is_letters : CalD P w K mg base (MM K Tb pn cs) 3 "_law_is_letters" ["_law_text"] s__law_is_letters) (c_law_pick : CalD P w K mg base (MM K Tb pn cs) 3 "_law_pick" ["_law_pen_here", "_law_menu"] s__law_pick) (c_law_signs : CalD P w K mg base (MM K Tb pn cs) 2 "_law_signs" [] s__law_signs) (ccolumn_of : CalD P w K mg base (MM K Tb pn cs) 4 "column_of" ["letters"] (s_column_of A)) (TB : LamX.TabB base mg A.k_law_word_right A.p_law_word_right) (TM : (A.p_law_word_right, (("_law_word_right" : Str) ++ ".<locals>." ++ "<lambda>")) ∈ Tb) (TU : ∀ p ∈ Tb, p.1 = A.p_law_word_right → p.2 = (("_law_word_right" : Str) ++ ".<locals>." ++ "<lambda>")) : CalD P w K mg base (MM K Tb pn cs) 7 "_law_word_right" ["_law_pen_here"] s__law_word_right :=
  CalD.ofC (M := MM K Tb pn cs) D sc__law_word_right (t__law_word_right K A cs) (fun f A0 outer s0 H E hr => b__law_word_right T c_law_column c_law_draw c_law_is_letters c_law_pick c_law_signs ccolumn_of TB TM TU f A0 outer s0 H E hr) (fun ds n q e hl h => p__law_word_right ds n q e hl h)
theorem cal__law_refused_right (T : Txt P K mg A) (D : DefC K mg "_law_refused_right" (top 32) ["_law_pen_here"] A.k_law_refused_right) (c_law_pick : CalD P w K mg base (MM K Tb pn cs) 3 "_law_pick" ["_law_pen_here", "_law_menu"] s__law_pick) (ccolumn_of : CalD P w K mg base (MM K Tb pn cs) 4 "column_of" ["letters"] (s_column_of A)) (cletters_of : CalD P w K mg base (MM K Tb pn cs) 4 "letters_of" ["column"] (s_letters_of A)) (TB : LamX.TabB base mg A.k_law_refused_right A.p_law_refused_right) (TM : (A.p_law_refused_right, (("_law_refused_right" : Str) ++ ".<locals>." ++ "<lambda>")) ∈ Tb) (TU : ∀ p ∈ Tb, p.1 = A.p_law_refused_right → p.2 = (("_law_refused_right" : Str) ++ ".<locals>." ++ "<lambda>")) : CalD P w K mg base (MM K Tb pn cs) 7 "_law_refused_right" ["_law_pen_here"] s__law_refused_right :=
  CalD.ofC (M := MM K Tb pn cs) D sc__law_refused_right (t__law_refused_right K A cs) (fun f A0 outer s0 H E hr => b__law_refused_right T c_law_pick ccolumn_of cletters_of TB TM TU f A0 outer s0 H E hr) (fun ds n q e hl h => p__law_refused_right T ds n q e hl h)
theorem sc__law_pen : FnScope ["_law_script"] ["_law_script"] (defScope (top 20)) := ⟨rfl, rfl, rfl, by decide +kernel, rfl, by decide +kernel, by decide +kernel⟩
theorem ok_pen {f : Addr} {fd : FuncData} (F : Fun K "_law_pen" "_law_pen" (top 20) f fd) (hl : mg "list" = none) : FnOk P w K mg base (L2.CX P w) 2 f fd ["_law_script"] (spPen K "at" "left") := by
  refine F.okX sc__law_pen (fun vs H Q E h => ?_) (fun cdv A outer s H vs Q E hr h => ⟨tPen K "at" "left", ?_, pen_pure (by decide) (by decide) (by decide) vs H Q E h⟩)
  · obtain ⟨a, ns, rfl, _⟩ := h
    rfl
  · exact pss_one (ps_ret (pe_disp (pps_cons pe_str (pe_callTy call_list_of (by rfl) hl PyProof.Rows.boot_list (pa_cons (pe_slice sl_list (pv 0) po_none (po_some pe_int)) pa_nil)) (pps_cons pe_str pe_int (pps_cons pe_str pe_int pps_nil))) rfl rfl (by decide) (by decide)))
theorem ok_law {f fp : Addr} {fd fdp : FuncData} (T : Txt P K mg A) (F : Fun K "law" "law" (top 33) f fd) (Fp : Fun K "_law_pen" "_law_pen" (top 20) fp fdp) (bp : Binds K fdp ["_law_script"] []) (gp : mg "_law_pen" = some (.ref fp)) (kp : PySem.W.keepIn K (.ref fp) = true) (hl : mg "list" = none) (c_law_column_drawn : ∀ pn cs, CalD P w K mg base (MM K Tb pn cs) 4 "_law_column_drawn" ["_law_pen_here"] s__law_column_drawn) (c_law_letters_right : ∀ pn cs, CalD P w K mg base (MM K Tb pn cs) 5 "_law_letters_right" ["_law_pen_here", "_law_column_here"] s__law_letters_right) (c_law_refused_right : ∀ pn cs, CalD P w K mg base (MM K Tb pn cs) 7 "_law_refused_right" ["_law_pen_here"] s__law_refused_right) (c_law_word_right : ∀ pn cs, CalD P w K mg base (MM K Tb pn cs) 7 "_law_word_right" ["_law_pen_here"] s__law_word_right) :
    FnOk P w K mg base (L2.CX P w) 8 f fd ["_law_script"] (spLaw K Tb) := by
  refine F.okX sc_law (fun vs H Q E h => ?_) (fun cdv A0 outer s0 H vs Q E hr h => ⟨_, ?_, law_pure (K := K) (T := Tb) (ka := "at") (kl := "left") (W := fun cls d _ H => E cls d H) (WS := WE fun cls d _ H => E cls d H) (N := N_law) (m := 1) (t := fun cs => t_law K A cs) rfl (fun cs _ => p_law cs) vs H Q E h⟩)
  · obtain ⟨a, ns, rfl, _⟩ := h
    rfl
  · have tk : Takes (XC P w K mg base N_law "law" (top 33) f cdv A0 outer s0 H E) (fun cls d _ H => E cls d H) := takes_of rfl rfl rfl rfl
    have h2 : PSs (XC P w K mg base N_law "law" (top 33) f cdv A0 outer s0 H E) ((defBody (top 33)).drop 1) (tLaw K Tb "at" "left" (fun cls d _ H => E cls d H) fun cs => t_law K A cs) := pss_law fun pn cs => b_law T (c_law_column_drawn pn cs) (c_law_letters_right pn cs) (c_law_refused_right pn cs) (c_law_word_right pn cs) f cdv A0 outer s0 H E hr
    exact pss_cons (ps_set (i := 1) sc_law.nd rfl (Or.inl rfl) (pe_callSD (dvs := []) (ds := []) (ok_pen Fp hl) (hr.mono (by decide)) rfl gp kp bp .nil (fun σ => passAt tk σ) (pa_cons (pv 0) pa_nil))) h2
end
theorem fin (l : PySem.W.OpenLaw) {w : World} {K : PySem.W.Frag} {h : Heap} {mg : Str → Option Value} {fa : Addr} (X : K.In h) (G : h.Ns mainGlobals mg) (hfa : mg "law" = some (.ref fa))
    {v_LETTERS : Str} {tk_LETTERS : Tok} {v_MOST_COLUMNS : Int} {tk_MOST_COLUMNS : Tok} {C_BadValue : Addr} {C_NotAName : Addr} {C_OffGrid : Addr} {C_SheetError : Addr} {C_TooMany : Addr} {nm_BadValue q_BadValue : Str} {N_BadValue : Addr} {bs_BadValue bm_BadValue sub_BadValue : List Value} {sn_BadValue : List Str} {ab_BadValue : Bool} {col_BadValue : Option Bool} {dd_BadValue : Option Addr} {m0_BadValue m1_BadValue m2_BadValue m3_BadValue m5_BadValue : Option Value} {fI_BadValue : Addr} {oc_BadValue dc_BadValue pm_BadValue ct_BadValue : Value} {od_BadValue an_BadValue : Option Addr} {cd_BadValue cc_BadValue : Addr} {sl_BadValue : Array (Option Value)} {ccl_BadValue : Value} {cdd_BadValue : Option Addr} {vs_BadValue : Array Value} {ccs_BadValue : Array (Option Value)} {fl_BadValue : Str} {tf_BadValue : Tok} {cl_BadValue : Value} {cld_BadValue : Option Addr} {csl_BadValue : Array (Option Value)} {nm_NotAName q_NotAName : Str} {N_NotAName : Addr} {bs_NotAName bm_NotAName sub_NotAName : List Value} {sn_NotAName : List Str} {ab_NotAName : Bool} {col_NotAName : Option Bool} {dd_NotAName : Option Addr} {m0_NotAName m1_NotAName m2_NotAName m3_NotAName m5_NotAName : Option Value} {fI_NotAName : Addr} {oc_NotAName dc_NotAName pm_NotAName ct_NotAName : Value} {od_NotAName an_NotAName : Option Addr} {cd_NotAName cc_NotAName : Addr} {sl_NotAName : Array (Option Value)} {ccl_NotAName : Value} {cdd_NotAName : Option Addr} {vs_NotAName : Array Value} {ccs_NotAName : Array (Option Value)} {fl_NotAName : Str} {tf_NotAName : Tok} {cl_NotAName : Value} {cld_NotAName : Option Addr} {csl_NotAName : Array (Option Value)} {f_is_integer : Addr} {ocis_integer kVis_integer dcis_integer pmis_integer cvis_integer ctis_integer : Value} {odis_integer anis_integer : Option Addr} {slis_integer : Array (Option Value)} {f_need_between : Addr} {ocneed_between kVneed_between dcneed_between pmneed_between cvneed_between ctneed_between : Value} {odneed_between anneed_between : Option Addr} {slneed_between : Array (Option Value)} {f_need_any_string : Addr} {ocneed_any_string kVneed_any_string dcneed_any_string pmneed_any_string cvneed_any_string ctneed_any_string : Value} {odneed_any_string anneed_any_string : Option Addr} {slneed_any_string : Array (Option Value)} {f_is_letter : Addr} {ocis_letter kVis_letter dcis_letter pmis_letter cvis_letter ctis_letter : Value} {odis_letter anis_letter : Option Addr} {slis_letter : Array (Option Value)} {f_column_letters : Addr} {occolumn_letters kVcolumn_letters dccolumn_letters pmcolumn_letters cvcolumn_letters ctcolumn_letters : Value} {odcolumn_letters ancolumn_letters : Option Addr} {slcolumn_letters : Array (Option Value)} {f_column_number : Addr} {occolumn_number kVcolumn_number dccolumn_number pmcolumn_number cvcolumn_number ctcolumn_number : Value} {odcolumn_number ancolumn_number : Option Addr} {slcolumn_number : Array (Option Value)} {f_letters_of : Addr} {ocletters_of kVletters_of dcletters_of pmletters_of cvletters_of ctletters_of : Value} {odletters_of anletters_of : Option Addr} {slletters_of : Array (Option Value)} {f_column_of : Addr} {occolumn_of kVcolumn_of dccolumn_of pmcolumn_of cvcolumn_of ctcolumn_of : Value} {odcolumn_of ancolumn_of : Option Addr} {slcolumn_of : Array (Option Value)} {f__law_draw : Addr} {oc_law_draw kV_law_draw dc_law_draw pm_law_draw cv_law_draw ct_law_draw : Value} {od_law_draw an_law_draw : Option Addr} {sl_law_draw : Array (Option Value)} {f__law_pick : Addr} {oc_law_pick kV_law_pick dc_law_pick pm_law_pick cv_law_pick ct_law_pick : Value} {od_law_pick an_law_pick : Option Addr} {sl_law_pick : Array (Option Value)} {f__law_signs : Addr} {oc_law_signs kV_law_signs dc_law_signs pm_law_signs cv_law_signs ct_law_signs : Value} {od_law_signs an_law_signs : Option Addr} {sl_law_signs : Array (Option Value)} {f__law_letters : Addr} {oc_law_letters kV_law_letters dc_law_letters pm_law_letters cv_law_letters ct_law_letters : Value} {od_law_letters an_law_letters : Option Addr} {sl_law_letters : Array (Option Value)} {f__law_column : Addr} {oc_law_column kV_law_column dc_law_column pm_law_column cv_law_column ct_law_column : Value} {od_law_column an_law_column : Option Addr} {sl_law_column : Array (Option Value)} {f__law_is_letters : Addr} {oc_law_is_letters kV_law_is_letters dc_law_is_letters pm_law_is_letters cv_law_is_letters ct_law_is_letters : Value} {od_law_is_letters an_law_is_letters : Option Addr} {sl_law_is_letters : Array (Option Value)} {f__law_mixed_case : Addr} {oc_law_mixed_case kV_law_mixed_case dc_law_mixed_case pm_law_mixed_case cv_law_mixed_case ct_law_mixed_case : Value} {od_law_mixed_case an_law_mixed_case : Option Addr} {sl_law_mixed_case : Array (Option Value)} {f__law_told : Addr} {oc_law_told kV_law_told dc_law_told pm_law_told ct_law_told : Value} {od_law_told an_law_told : Option Addr} {sl_law_told : Array (Option Value)} {c__law_told : Addr} {f__law_column_drawn : Addr} {oc_law_column_drawn kV_law_column_drawn dc_law_column_drawn pm_law_column_drawn cv_law_column_drawn ct_law_column_drawn : Value} {od_law_column_drawn an_law_column_drawn : Option Addr} {sl_law_column_drawn : Array (Option Value)} {f__law_letters_right : Addr} {oc_law_letters_right kV_law_letters_right dc_law_letters_right pm_law_letters_right cv_law_letters_right ct_law_letters_right : Value} {od_law_letters_right an_law_letters_right : Option Addr} {sl_law_letters_right : Array (Option Value)} {f__law_word_right : Addr} {oc_law_word_right kV_law_word_right dc_law_word_right pm_law_word_right ct_law_word_right : Value} {od_law_word_right an_law_word_right : Option Addr} {sl_law_word_right : Array (Option Value)} {c__law_word_right : Addr} {f__law_refused_right : Addr} {oc_law_refused_right kV_law_refused_right dc_law_refused_right pm_law_refused_right ct_law_refused_right : Value} {od_law_refused_right an_law_refused_right : Option Addr} {sl_law_refused_right : Array (Option Value)} {c__law_refused_right : Addr} {f_law : Addr} {oclaw kVlaw dclaw pmlaw cvlaw ctlaw : Value} {odlaw anlaw : Option Addr} {sllaw : Array (Option Value)} {f__law_pen : Addr} {oc_law_pen kV_law_pen dc_law_pen pm_law_pen cv_law_pen ct_law_pen : Value} {od_law_pen an_law_pen : Option Addr} {sl_law_pen : Array (Option Value)} {p__law_word_right : Addr} {cw_law_word_right : Value} {cx_law_word_right : Option Addr} {cy_law_word_right : Array Value} {cz_law_word_right : Array (Option Value)} {p__law_refused_right : Addr} {cw_law_refused_right : Value} {cx_law_refused_right : Option Addr} {cy_law_refused_right : Array Value} {cz_law_refused_right : Array (Option Value)}
    (hn_ValueError : PySem.W.nsIn K mainGlobals "ValueError" = some none)
    (hn_all : PySem.W.nsIn K mainGlobals "all" = some none)
    (hn_bool : PySem.W.nsIn K mainGlobals "bool" = some none)
    (hn_int : PySem.W.nsIn K mainGlobals "int" = some none)
    (hn_isinstance : PySem.W.nsIn K mainGlobals "isinstance" = some none)
    (hn_len : PySem.W.nsIn K mainGlobals "len" = some none)
    (hn_list : PySem.W.nsIn K mainGlobals "list" = some none)
    (hn_max : PySem.W.nsIn K mainGlobals "max" = some none)
    (hn_min : PySem.W.nsIn K mainGlobals "min" = some none)
    (hn_range : PySem.W.nsIn K mainGlobals "range" = some none)
    (hn_str : PySem.W.nsIn K mainGlobals "str" = some none)
    (hn_super : PySem.W.nsIn K mainGlobals "super" = some none)
    (hg_LETTERS : PySem.W.nsIn K mainGlobals "LETTERS" = some (some (.str v_LETTERS tk_LETTERS)))
    (he_LETTERS : v_LETTERS = DL.S [65, 66, 67, 68, 69, 70, 71, 72, 73, 74, 75, 76, 77, 78, 79, 80, 81, 82, 83, 84, 85, 86, 87, 88, 89, 90])
    (hg_MOST_COLUMNS : PySem.W.nsIn K mainGlobals "MOST_COLUMNS" = some (some (.int v_MOST_COLUMNS tk_MOST_COLUMNS)))
    (he_MOST_COLUMNS : v_MOST_COLUMNS = 18278)
    (ha_BadValue : PySem.W.nsIn K mainGlobals "BadValue" = some (some (.ref C_BadValue)))
    (ha_NotAName : PySem.W.nsIn K mainGlobals "NotAName" = some (some (.ref C_NotAName)))
    (ha_OffGrid : PySem.W.nsIn K mainGlobals "OffGrid" = some (some (.ref C_OffGrid)))
    (ha_SheetError : PySem.W.nsIn K mainGlobals "SheetError" = some (some (.ref C_SheetError)))
    (ha_TooMany : PySem.W.nsIn K mainGlobals "TooMany" = some (some (.ref C_TooMany)))
    (hex_BadValue : PySem.W.subIn K (.ref C_BadValue) (.type "BaseException") = some true)
    (hhd_BadValue : PySem.W.hasDictIn K C_BadValue = true)
    (hty_BadValue : PySem.W.typeIn K (.ref C_BadValue) = some (.type "type"))
    (hga_BadValue : PySem.W.findIn K (.ref C_BadValue) "__getattribute__" = some (some (.builtin "BaseException.__getattribute__")))
    (hgg_BadValue : PySem.W.findIn K (.ref C_BadValue) "__getattr__" = some none)
    (hno_BadValue_value : PySem.W.findIn K (.ref C_BadValue) "value" = some none)
    (hex_NotAName : PySem.W.subIn K (.ref C_NotAName) (.type "BaseException") = some true)
    (hhd_NotAName : PySem.W.hasDictIn K C_NotAName = true)
    (hty_NotAName : PySem.W.typeIn K (.ref C_NotAName) = some (.type "type"))
    (hga_NotAName : PySem.W.findIn K (.ref C_NotAName) "__getattribute__" = some (some (.builtin "BaseException.__getattribute__")))
    (hgg_NotAName : PySem.W.findIn K (.ref C_NotAName) "__getattr__" = some none)
    (hno_NotAName_name : PySem.W.findIn K (.ref C_NotAName) "name" = some none)
    (hex_OffGrid : PySem.W.subIn K (.ref C_OffGrid) (.type "BaseException") = some true)
    (hhd_OffGrid : PySem.W.hasDictIn K C_OffGrid = true)
    (hty_OffGrid : PySem.W.typeIn K (.ref C_OffGrid) = some (.type "type"))
    (hga_OffGrid : PySem.W.findIn K (.ref C_OffGrid) "__getattribute__" = some (some (.builtin "BaseException.__getattribute__")))
    (hgg_OffGrid : PySem.W.findIn K (.ref C_OffGrid) "__getattr__" = some none)
    (hno_OffGrid_column : PySem.W.findIn K (.ref C_OffGrid) "column" = some none)
    (hno_OffGrid_row : PySem.W.findIn K (.ref C_OffGrid) "row" = some none)
    (hex_SheetError : PySem.W.subIn K (.ref C_SheetError) (.type "BaseException") = some true)
    (hhd_SheetError : PySem.W.hasDictIn K C_SheetError = true)
    (hty_SheetError : PySem.W.typeIn K (.ref C_SheetError) = some (.type "type"))
    (hex_TooMany : PySem.W.subIn K (.ref C_TooMany) (.type "BaseException") = some true)
    (hhd_TooMany : PySem.W.hasDictIn K C_TooMany = true)
    (hty_TooMany : PySem.W.typeIn K (.ref C_TooMany) = some (.type "type"))
    (hga_TooMany : PySem.W.findIn K (.ref C_TooMany) "__getattribute__" = some (some (.builtin "BaseException.__getattribute__")))
    (hgg_TooMany : PySem.W.findIn K (.ref C_TooMany) "__getattr__" = some none)
    (hno_TooMany_most : PySem.W.findIn K (.ref C_TooMany) "most" = some none)
    (hopq : PySem.W.nsIn K PySem.cStatics "thirdparty.any" = some none)
    (hhtop : (l.prog.main.scope.names.lookup ("super" : Str)).isSome = false)
    (hx_BadValue : K.lookup C_BadValue = some (excClassObj nm_BadValue q_BadValue C_BadValue N_BadValue bs_BadValue bm_BadValue true sn_BadValue sub_BadValue ab_BadValue col_BadValue dd_BadValue m0_BadValue m1_BadValue m2_BadValue m3_BadValue m5_BadValue "ValueError.__new__"))
    (hv_BadValue : PySem.HandSPX.refsVE bm_BadValue = true)
    (hsa_BadValue : PySem.W.findIn K (.ref C_BadValue) "__setattr__" = some (some (.builtin "object.__setattr__")))
    (hi_BadValue : PySem.W.findIn K (.ref C_BadValue) "__init__" = some (some (.ref fI_BadValue)))
    (ht_BadValue : PySem.W.typeIn K (.ref fI_BadValue) = some (.type "function"))
    (hl_BadValue : K.lookup fI_BadValue = some ⟨oc_BadValue, od_BadValue, .func (PySem.W.ksFn "__init__" "BadValue.__init__" (PySem.EX.iA "value" ⟨6, 17, 6, 21⟩ ⟨6, 23, 6, 28⟩) (PySem.EX.iB "value" ⟨7, 8, 7, 13⟩ ⟨7, 8, 7, 15⟩ ⟨7, 8, 7, 24⟩ ⟨7, 25, 7, 30⟩ ⟨7, 8, 7, 31⟩ ⟨7, 8, 7, 31⟩ ⟨8, 8, 8, 12⟩ ⟨8, 8, 8, 18⟩ ⟨8, 21, 8, 26⟩ ⟨8, 8, 8, 26⟩) (PySem.EX.iS "value") .none .none dc_BadValue pm_BadValue an_BadValue (.ref cd_BadValue) ct_BadValue cc_BadValue), sl_BadValue⟩)
    (hco_BadValue : PySem.W.codeIn K (.ref cd_BadValue) "BadValue.__init__" = true)
    (hlc_BadValue : K.lookup cd_BadValue = some ⟨ccl_BadValue, cdd_BadValue, .fields vs_BadValue, ccs_BadValue⟩)
    (hvf_BadValue : vs_BadValue[2]? = some (.str fl_BadValue tf_BadValue))
    (hff_BadValue : ((l.prog.main.file : Str) == fl_BadValue) = true)
    (hlx_BadValue : K.lookup cc_BadValue = some ⟨cl_BadValue, cld_BadValue, .cell (some (.ref C_BadValue)), csl_BadValue⟩)
    (hk_BadValue : PySem.W.keepIn K (.ref C_BadValue) = true)
    (hve_BadValue : PySem.W.subIn K (.ref C_BadValue) (.type "ValueError") = some true)
    (hsu_BadValue : PySem.W.ks_superIn K C_BadValue C_BadValue "__init__" = some (some (.builtin "ValueError.__init__")))
    (hse_BadValue : PySem.W.mroIn K C_BadValue (.ref C_BadValue) = some true)
    (hx_NotAName : K.lookup C_NotAName = some (excClassObj nm_NotAName q_NotAName C_NotAName N_NotAName bs_NotAName bm_NotAName true sn_NotAName sub_NotAName ab_NotAName col_NotAName dd_NotAName m0_NotAName m1_NotAName m2_NotAName m3_NotAName m5_NotAName "ValueError.__new__"))
    (hv_NotAName : PySem.HandSPX.refsVE bm_NotAName = true)
    (hsa_NotAName : PySem.W.findIn K (.ref C_NotAName) "__setattr__" = some (some (.builtin "object.__setattr__")))
    (hi_NotAName : PySem.W.findIn K (.ref C_NotAName) "__init__" = some (some (.ref fI_NotAName)))
    (ht_NotAName : PySem.W.typeIn K (.ref fI_NotAName) = some (.type "function"))
    (hl_NotAName : K.lookup fI_NotAName = some ⟨oc_NotAName, od_NotAName, .func (PySem.W.ksFn "__init__" "NotAName.__init__" (PySem.EX.iA "name" ⟨16, 17, 16, 21⟩ ⟨16, 23, 16, 27⟩) (PySem.EX.iB "name" ⟨17, 8, 17, 13⟩ ⟨17, 8, 17, 15⟩ ⟨17, 8, 17, 24⟩ ⟨17, 25, 17, 29⟩ ⟨17, 8, 17, 30⟩ ⟨17, 8, 17, 30⟩ ⟨18, 8, 18, 12⟩ ⟨18, 8, 18, 17⟩ ⟨18, 20, 18, 24⟩ ⟨18, 8, 18, 24⟩) (PySem.EX.iS "name") .none .none dc_NotAName pm_NotAName an_NotAName (.ref cd_NotAName) ct_NotAName cc_NotAName), sl_NotAName⟩)
    (hco_NotAName : PySem.W.codeIn K (.ref cd_NotAName) "NotAName.__init__" = true)
    (hlc_NotAName : K.lookup cd_NotAName = some ⟨ccl_NotAName, cdd_NotAName, .fields vs_NotAName, ccs_NotAName⟩)
    (hvf_NotAName : vs_NotAName[2]? = some (.str fl_NotAName tf_NotAName))
    (hff_NotAName : ((l.prog.main.file : Str) == fl_NotAName) = true)
    (hlx_NotAName : K.lookup cc_NotAName = some ⟨cl_NotAName, cld_NotAName, .cell (some (.ref C_NotAName)), csl_NotAName⟩)
    (hk_NotAName : PySem.W.keepIn K (.ref C_NotAName) = true)
    (hve_NotAName : PySem.W.subIn K (.ref C_NotAName) (.type "ValueError") = some true)
    (hsu_NotAName : PySem.W.ks_superIn K C_NotAName C_NotAName "__init__" = some (some (.builtin "ValueError.__init__")))
    (hse_NotAName : PySem.W.mroIn K C_NotAName (.ref C_NotAName) = some true)
    (hs_BadValue_BadValue : PySem.W.subIn K (.ref C_BadValue) (.ref C_BadValue) = some true)
    (hs_NotAName_BadValue : PySem.W.subIn K (.ref C_NotAName) (.ref C_BadValue) = some false)
    (hs_NotAName_NotAName : PySem.W.subIn K (.ref C_NotAName) (.ref C_NotAName) = some true)
    (hs_NotAName_SheetError : PySem.W.subIn K (.ref C_NotAName) (.ref C_SheetError) = some true)
    (hha_NotAName : PySem.W.findIn K (.ref C_NotAName) "__class__" = some (some (.builtin "object.__class__")))
    (hhm_NotAName : PySem.W.mroIn K C_NotAName (.type "object") = some true)
    (hhn : PySem.W.specialIn K (.builtin "object.__class__") "__get__" = some (some (.builtin "getset_descriptor.__get__")))
    (hht : PySem.W.takesIn K (.builtin "object.__class__") = some true)
    (hkt_NotAName_NotAName : PySem.W.kitOne K (.ref C_NotAName) (.ref C_NotAName) = some true)
    (hkt_NotAName_ValueError : PySem.W.kitOne K (.ref C_NotAName) (.type "ValueError") = some true)
    (hkt_NotAName_BadValue : PySem.W.kitOne K (.ref C_NotAName) (.ref C_BadValue) = some false)
    (hais_integer : PySem.W.nsIn K mainGlobals "is_integer" = some (some (.ref f_is_integer)))
    (hlis_integer : K.lookup f_is_integer = some ⟨ocis_integer, odis_integer, .func (PySem.W.fnOf "is_integer" "is_integer" (defArgs (top 7)) (defBody (top 7)) (defScope (top 7)) .none kVis_integer dcis_integer pmis_integer anis_integer cvis_integer ctis_integer), slis_integer⟩)
    (hcis_integer : PySem.W.codeIn K cvis_integer "is_integer" = true)
    (hkis_integer : PySem.W.keepIn K (.ref f_is_integer) = true)
    (haneed_between : PySem.W.nsIn K mainGlobals "need_between" = some (some (.ref f_need_between)))
    (hlneed_between : K.lookup f_need_between = some ⟨ocneed_between, odneed_between, .func (PySem.W.fnOf "need_between" "need_between" (defArgs (top 8)) (defBody (top 8)) (defScope (top 8)) .none kVneed_between dcneed_between pmneed_between anneed_between cvneed_between ctneed_between), slneed_between⟩)
    (hcneed_between : PySem.W.codeIn K cvneed_between "need_between" = true)
    (hkneed_between : PySem.W.keepIn K (.ref f_need_between) = true)
    (haneed_any_string : PySem.W.nsIn K mainGlobals "need_any_string" = some (some (.ref f_need_any_string)))
    (hlneed_any_string : K.lookup f_need_any_string = some ⟨ocneed_any_string, odneed_any_string, .func (PySem.W.fnOf "need_any_string" "need_any_string" (defArgs (top 9)) (defBody (top 9)) (defScope (top 9)) .none kVneed_any_string dcneed_any_string pmneed_any_string anneed_any_string cvneed_any_string ctneed_any_string), slneed_any_string⟩)
    (hcneed_any_string : PySem.W.codeIn K cvneed_any_string "need_any_string" = true)
    (hkneed_any_string : PySem.W.keepIn K (.ref f_need_any_string) = true)
    (hais_letter : PySem.W.nsIn K mainGlobals "is_letter" = some (some (.ref f_is_letter)))
    (hlis_letter : K.lookup f_is_letter = some ⟨ocis_letter, odis_letter, .func (PySem.W.fnOf "is_letter" "is_letter" (defArgs (top 11)) (defBody (top 11)) (defScope (top 11)) .none kVis_letter dcis_letter pmis_letter anis_letter cvis_letter ctis_letter), slis_letter⟩)
    (hcis_letter : PySem.W.codeIn K cvis_letter "is_letter" = true)
    (hkis_letter : PySem.W.keepIn K (.ref f_is_letter) = true)
    (hacolumn_letters : PySem.W.nsIn K mainGlobals "column_letters" = some (some (.ref f_column_letters)))
    (hlcolumn_letters : K.lookup f_column_letters = some ⟨occolumn_letters, odcolumn_letters, .func (PySem.W.fnOf "column_letters" "column_letters" (defArgs (top 15)) (defBody (top 15)) (defScope (top 15)) .none kVcolumn_letters dccolumn_letters pmcolumn_letters ancolumn_letters cvcolumn_letters ctcolumn_letters), slcolumn_letters⟩)
    (hccolumn_letters : PySem.W.codeIn K cvcolumn_letters "column_letters" = true)
    (hkcolumn_letters : PySem.W.keepIn K (.ref f_column_letters) = true)
    (hacolumn_number : PySem.W.nsIn K mainGlobals "column_number" = some (some (.ref f_column_number)))
    (hlcolumn_number : K.lookup f_column_number = some ⟨occolumn_number, odcolumn_number, .func (PySem.W.fnOf "column_number" "column_number" (defArgs (top 16)) (defBody (top 16)) (defScope (top 16)) .none kVcolumn_number dccolumn_number pmcolumn_number ancolumn_number cvcolumn_number ctcolumn_number), slcolumn_number⟩)
    (hccolumn_number : PySem.W.codeIn K cvcolumn_number "column_number" = true)
    (hkcolumn_number : PySem.W.keepIn K (.ref f_column_number) = true)
    (haletters_of : PySem.W.nsIn K mainGlobals "letters_of" = some (some (.ref f_letters_of)))
    (hlletters_of : K.lookup f_letters_of = some ⟨ocletters_of, odletters_of, .func (PySem.W.fnOf "letters_of" "letters_of" (defArgs (top 17)) (defBody (top 17)) (defScope (top 17)) .none kVletters_of dcletters_of pmletters_of anletters_of cvletters_of ctletters_of), slletters_of⟩)
    (hcletters_of : PySem.W.codeIn K cvletters_of "letters_of" = true)
    (hkletters_of : PySem.W.keepIn K (.ref f_letters_of) = true)
    (hacolumn_of : PySem.W.nsIn K mainGlobals "column_of" = some (some (.ref f_column_of)))
    (hlcolumn_of : K.lookup f_column_of = some ⟨occolumn_of, odcolumn_of, .func (PySem.W.fnOf "column_of" "column_of" (defArgs (top 18)) (defBody (top 18)) (defScope (top 18)) .none kVcolumn_of dccolumn_of pmcolumn_of ancolumn_of cvcolumn_of ctcolumn_of), slcolumn_of⟩)
    (hccolumn_of : PySem.W.codeIn K cvcolumn_of "column_of" = true)
    (hkcolumn_of : PySem.W.keepIn K (.ref f_column_of) = true)
    (ha_law_draw : PySem.W.nsIn K mainGlobals "_law_draw" = some (some (.ref f__law_draw)))
    (hl_law_draw : K.lookup f__law_draw = some ⟨oc_law_draw, od_law_draw, .func (PySem.W.fnOf "_law_draw" "_law_draw" (defArgs (top 21)) (defBody (top 21)) (defScope (top 21)) .none kV_law_draw dc_law_draw pm_law_draw an_law_draw cv_law_draw ct_law_draw), sl_law_draw⟩)
    (hc_law_draw : PySem.W.codeIn K cv_law_draw "_law_draw" = true)
    (hk_law_draw : PySem.W.keepIn K (.ref f__law_draw) = true)
    (ha_law_pick : PySem.W.nsIn K mainGlobals "_law_pick" = some (some (.ref f__law_pick)))
    (hl_law_pick : K.lookup f__law_pick = some ⟨oc_law_pick, od_law_pick, .func (PySem.W.fnOf "_law_pick" "_law_pick" (defArgs (top 22)) (defBody (top 22)) (defScope (top 22)) .none kV_law_pick dc_law_pick pm_law_pick an_law_pick cv_law_pick ct_law_pick), sl_law_pick⟩)
    (hc_law_pick : PySem.W.codeIn K cv_law_pick "_law_pick" = true)
    (hk_law_pick : PySem.W.keepIn K (.ref f__law_pick) = true)
    (ha_law_signs : PySem.W.nsIn K mainGlobals "_law_signs" = some (some (.ref f__law_signs)))
    (hl_law_signs : K.lookup f__law_signs = some ⟨oc_law_signs, od_law_signs, .func (PySem.W.fnOf "_law_signs" "_law_signs" (defArgs (top 23)) (defBody (top 23)) (defScope (top 23)) .none kV_law_signs dc_law_signs pm_law_signs an_law_signs cv_law_signs ct_law_signs), sl_law_signs⟩)
    (hc_law_signs : PySem.W.codeIn K cv_law_signs "_law_signs" = true)
    (hk_law_signs : PySem.W.keepIn K (.ref f__law_signs) = true)
    (ha_law_letters : PySem.W.nsIn K mainGlobals "_law_letters" = some (some (.ref f__law_letters)))
    (hl_law_letters : K.lookup f__law_letters = some ⟨oc_law_letters, od_law_letters, .func (PySem.W.fnOf "_law_letters" "_law_letters" (defArgs (top 24)) (defBody (top 24)) (defScope (top 24)) .none kV_law_letters dc_law_letters pm_law_letters an_law_letters cv_law_letters ct_law_letters), sl_law_letters⟩)
    (hc_law_letters : PySem.W.codeIn K cv_law_letters "_law_letters" = true)
    (hk_law_letters : PySem.W.keepIn K (.ref f__law_letters) = true)
    (ha_law_column : PySem.W.nsIn K mainGlobals "_law_column" = some (some (.ref f__law_column)))
    (hl_law_column : K.lookup f__law_column = some ⟨oc_law_column, od_law_column, .func (PySem.W.fnOf "_law_column" "_law_column" (defArgs (top 25)) (defBody (top 25)) (defScope (top 25)) .none kV_law_column dc_law_column pm_law_column an_law_column cv_law_column ct_law_column), sl_law_column⟩)
    (hc_law_column : PySem.W.codeIn K cv_law_column "_law_column" = true)
    (hk_law_column : PySem.W.keepIn K (.ref f__law_column) = true)
    (ha_law_is_letters : PySem.W.nsIn K mainGlobals "_law_is_letters" = some (some (.ref f__law_is_letters)))
    (hl_law_is_letters : K.lookup f__law_is_letters = some ⟨oc_law_is_letters, od_law_is_letters, .func (PySem.W.fnOf "_law_is_letters" "_law_is_letters" (defArgs (top 26)) (defBody (top 26)) (defScope (top 26)) .none kV_law_is_letters dc_law_is_letters pm_law_is_letters an_law_is_letters cv_law_is_letters ct_law_is_letters), sl_law_is_letters⟩)
    (hc_law_is_letters : PySem.W.codeIn K cv_law_is_letters "_law_is_letters" = true)
    (hk_law_is_letters : PySem.W.keepIn K (.ref f__law_is_letters) = true)
    (ha_law_mixed_case : PySem.W.nsIn K mainGlobals "_law_mixed_case" = some (some (.ref f__law_mixed_case)))
    (hl_law_mixed_case : K.lookup f__law_mixed_case = some ⟨oc_law_mixed_case, od_law_mixed_case, .func (PySem.W.fnOf "_law_mixed_case" "_law_mixed_case" (defArgs (top 27)) (defBody (top 27)) (defScope (top 27)) .none kV_law_mixed_case dc_law_mixed_case pm_law_mixed_case an_law_mixed_case cv_law_mixed_case ct_law_mixed_case), sl_law_mixed_case⟩)
    (hc_law_mixed_case : PySem.W.codeIn K cv_law_mixed_case "_law_mixed_case" = true)
    (hk_law_mixed_case : PySem.W.keepIn K (.ref f__law_mixed_case) = true)
    (ha_law_told : PySem.W.nsIn K mainGlobals "_law_told" = some (some (.ref f__law_told)))
    (hl_law_told : K.lookup f__law_told = some ⟨oc_law_told, od_law_told, .func (PySem.W.fnOf "_law_told" "_law_told" (defArgs (top 28)) (defBody (top 28)) (defScope (top 28)) .none kV_law_told dc_law_told pm_law_told an_law_told (.ref c__law_told) ct_law_told), sl_law_told⟩)
    (hc_law_told : PySem.W.codeIn K (.ref c__law_told) "_law_told" = true)
    (hk_law_told : PySem.W.keepIn K (.ref f__law_told) = true)
    (ha_law_column_drawn : PySem.W.nsIn K mainGlobals "_law_column_drawn" = some (some (.ref f__law_column_drawn)))
    (hl_law_column_drawn : K.lookup f__law_column_drawn = some ⟨oc_law_column_drawn, od_law_column_drawn, .func (PySem.W.fnOf "_law_column_drawn" "_law_column_drawn" (defArgs (top 29)) (defBody (top 29)) (defScope (top 29)) .none kV_law_column_drawn dc_law_column_drawn pm_law_column_drawn an_law_column_drawn cv_law_column_drawn ct_law_column_drawn), sl_law_column_drawn⟩)
    (hc_law_column_drawn : PySem.W.codeIn K cv_law_column_drawn "_law_column_drawn" = true)
    (hk_law_column_drawn : PySem.W.keepIn K (.ref f__law_column_drawn) = true)
    (ha_law_letters_right : PySem.W.nsIn K mainGlobals "_law_letters_right" = some (some (.ref f__law_letters_right)))
    (hl_law_letters_right : K.lookup f__law_letters_right = some ⟨oc_law_letters_right, od_law_letters_right, .func (PySem.W.fnOf "_law_letters_right" "_law_letters_right" (defArgs (top 30)) (defBody (top 30)) (defScope (top 30)) .none kV_law_letters_right dc_law_letters_right pm_law_letters_right an_law_letters_right cv_law_letters_right ct_law_letters_right), sl_law_letters_right⟩)
    (hc_law_letters_right : PySem.W.codeIn K cv_law_letters_right "_law_letters_right" = true)
    (hk_law_letters_right : PySem.W.keepIn K (.ref f__law_letters_right) = true)
    (ha_law_word_right : PySem.W.nsIn K mainGlobals "_law_word_right" = some (some (.ref f__law_word_right)))
    (hl_law_word_right : K.lookup f__law_word_right = some ⟨oc_law_word_right, od_law_word_right, .func (PySem.W.fnOf "_law_word_right" "_law_word_right" (defArgs (top 31)) (defBody (top 31)) (defScope (top 31)) .none kV_law_word_right dc_law_word_right pm_law_word_right an_law_word_right (.ref c__law_word_right) ct_law_word_right), sl_law_word_right⟩)
    (hc_law_word_right : PySem.W.codeIn K (.ref c__law_word_right) "_law_word_right" = true)
    (hk_law_word_right : PySem.W.keepIn K (.ref f__law_word_right) = true)
    (ha_law_refused_right : PySem.W.nsIn K mainGlobals "_law_refused_right" = some (some (.ref f__law_refused_right)))
    (hl_law_refused_right : K.lookup f__law_refused_right = some ⟨oc_law_refused_right, od_law_refused_right, .func (PySem.W.fnOf "_law_refused_right" "_law_refused_right" (defArgs (top 32)) (defBody (top 32)) (defScope (top 32)) .none kV_law_refused_right dc_law_refused_right pm_law_refused_right an_law_refused_right (.ref c__law_refused_right) ct_law_refused_right), sl_law_refused_right⟩)
    (hc_law_refused_right : PySem.W.codeIn K (.ref c__law_refused_right) "_law_refused_right" = true)
    (hk_law_refused_right : PySem.W.keepIn K (.ref f__law_refused_right) = true)
    (halaw : PySem.W.nsIn K mainGlobals "law" = some (some (.ref f_law)))
    (hllaw : K.lookup f_law = some ⟨oclaw, odlaw, .func (PySem.W.fnOf "law" "law" (defArgs (top 33)) (defBody (top 33)) (defScope (top 33)) .none kVlaw dclaw pmlaw anlaw cvlaw ctlaw), sllaw⟩)
    (hclaw : PySem.W.codeIn K cvlaw "law" = true)
    (hklaw : PySem.W.keepIn K (.ref f_law) = true)
    (ha_law_pen : PySem.W.nsIn K mainGlobals "_law_pen" = some (some (.ref f__law_pen)))
    (hl_law_pen : K.lookup f__law_pen = some ⟨oc_law_pen, od_law_pen, .func (PySem.W.fnOf "_law_pen" "_law_pen" (defArgs (top 20)) (defBody (top 20)) (defScope (top 20)) .none kV_law_pen dc_law_pen pm_law_pen an_law_pen cv_law_pen ct_law_pen), sl_law_pen⟩)
    (hc_law_pen : PySem.W.codeIn K cv_law_pen "_law_pen" = true)
    (hk_law_pen : PySem.W.keepIn K (.ref f__law_pen) = true)
    (hcl_law_word_right : K.lookup c__law_word_right = some ⟨cw_law_word_right, cx_law_word_right, .fields cy_law_word_right, cz_law_word_right⟩)
    (hcp_law_word_right : cy_law_word_right[11]? = some (.ref p__law_word_right))
    (hch_law_word_right : PySem.W.codeHdIn K c__law_word_right p__law_word_right = true)
    (hpt_law_word_right : h.get? p__law_word_right = some (PySem.W.tabObj #[]))
    (hpk_law_word_right : K.lookup p__law_word_right = none)
    (hcl_law_refused_right : K.lookup c__law_refused_right = some ⟨cw_law_refused_right, cx_law_refused_right, .fields cy_law_refused_right, cz_law_refused_right⟩)
    (hcp_law_refused_right : cy_law_refused_right[11]? = some (.ref p__law_refused_right))
    (hch_law_refused_right : PySem.W.codeHdIn K c__law_refused_right p__law_refused_right = true)
    (hpt_law_refused_right : h.get? p__law_refused_right = some (PySem.W.tabObj #[]))
    (hpk_law_refused_right : K.lookup p__law_refused_right = none)
    (hne_law_word_right_law_refused_right : p__law_word_right ≠ p__law_refused_right)
    : LamX.LawAtS l w K (L2.CX l.prog w) 8 63 "_law_script" mg fa h := by
  have e := hfa.symm.trans (PySem.W.mg_of X G halaw)
  cases e
  have E_BadValue : PySem.EX.ErrTxt l.prog K mg "BadValue" "value" C_BadValue fI_BadValue :=
    { gC := PySem.W.mg_of X G ha_BadValue, cls := ⟨_, _, _, _, _, _, _, _, _, _, _, _, _, _, _, hx_BadValue, hv_BadValue⟩, sa := hsa_BadValue, ga := hga_BadValue, gg := hgg_BadValue, noN := hno_BadValue_value, iC := hi_BadValue, tC := ht_BadValue, kC := hk_BadValue, exC := hex_BadValue, veC := hve_BadValue, tyC := hty_BadValue, hdC := hhd_BadValue, sup := hsu_BadValue, slf := hse_BadValue, opq := hopq, gS := PySem.W.mg_none_of X G hn_super, htop := hhtop, fself := by decide +kernel, fdb := by decide +kernel, ks := rfl, kc := rfl,
      fn := ⟨_, _, _, _, _, _, _, _, _, _, _, _, _, _, _, _, _, _, _, _, _, _, _, _, _, _, _, _, _, _, _, hl_BadValue, hco_BadValue, hlc_BadValue, hvf_BadValue, hff_BadValue, hlx_BadValue, fun _ _ => rfl, fun env _ => ⟨_, rfl⟩⟩ }
  have E_NotAName : PySem.EX.ErrTxt l.prog K mg "NotAName" "name" C_NotAName fI_NotAName :=
    { gC := PySem.W.mg_of X G ha_NotAName, cls := ⟨_, _, _, _, _, _, _, _, _, _, _, _, _, _, _, hx_NotAName, hv_NotAName⟩, sa := hsa_NotAName, ga := hga_NotAName, gg := hgg_NotAName, noN := hno_NotAName_name, iC := hi_NotAName, tC := ht_NotAName, kC := hk_NotAName, exC := hex_NotAName, veC := hve_NotAName, tyC := hty_NotAName, hdC := hhd_NotAName, sup := hsu_NotAName, slf := hse_NotAName, opq := hopq, gS := PySem.W.mg_none_of X G hn_super, htop := hhtop, fself := by decide +kernel, fdb := by decide +kernel, ks := rfl, kc := rfl,
      fn := ⟨_, _, _, _, _, _, _, _, _, _, _, _, _, _, _, _, _, _, _, _, _, _, _, _, _, _, _, _, _, _, _, hl_NotAName, hco_NotAName, hlc_NotAName, hvf_NotAName, hff_NotAName, hlx_NotAName, fun _ _ => rfl, fun env _ => ⟨_, rfl⟩⟩ }
  let A : Ad := { BadValue := C_BadValue, NotAName := C_NotAName, OffGrid := C_OffGrid, SheetError := C_SheetError, TooMany := C_TooMany, i_BadValue := fI_BadValue, i_NotAName := fI_NotAName, k_law_told := c__law_told, k_law_word_right := c__law_word_right, k_law_refused_right := c__law_refused_right, p_law_word_right := p__law_word_right, p_law_refused_right := p__law_refused_right }
  have Fis_integer := fun_mk (st := top 7) hlis_integer hcis_integer hkis_integer
  have Dis_integer : DefT K mg "is_integer" (top 7) ["value"] := ⟨f_is_integer, _, Fis_integer, PySem.W.mg_of X G hais_integer, hkis_integer, Fis_integer.binds (ps := ["value"]) fun _ _ _ _ _ _ us hl => match us, hl with | [_], _ => rfl⟩
  have Fneed_between := fun_mk (st := top 8) hlneed_between hcneed_between hkneed_between
  have Dneed_between : DefT K mg "need_between" (top 8) ["value", "least", "most"] := ⟨f_need_between, _, Fneed_between, PySem.W.mg_of X G haneed_between, hkneed_between, Fneed_between.binds (ps := ["value", "least", "most"]) fun _ _ _ _ _ _ us hl => match us, hl with | [_, _, _], _ => rfl⟩
  have Fneed_any_string := fun_mk (st := top 9) hlneed_any_string hcneed_any_string hkneed_any_string
  have Dneed_any_string : DefT K mg "need_any_string" (top 9) ["value"] := ⟨f_need_any_string, _, Fneed_any_string, PySem.W.mg_of X G haneed_any_string, hkneed_any_string, Fneed_any_string.binds (ps := ["value"]) fun _ _ _ _ _ _ us hl => match us, hl with | [_], _ => rfl⟩
  have Fis_letter := fun_mk (st := top 11) hlis_letter hcis_letter hkis_letter
  have Dis_letter : DefT K mg "is_letter" (top 11) ["sign"] := ⟨f_is_letter, _, Fis_letter, PySem.W.mg_of X G hais_letter, hkis_letter, Fis_letter.binds (ps := ["sign"]) fun _ _ _ _ _ _ us hl => match us, hl with | [_], _ => rfl⟩
  have Fcolumn_letters := fun_mk (st := top 15) hlcolumn_letters hccolumn_letters hkcolumn_letters
  have Dcolumn_letters : DefT K mg "column_letters" (top 15) ["column"] := ⟨f_column_letters, _, Fcolumn_letters, PySem.W.mg_of X G hacolumn_letters, hkcolumn_letters, Fcolumn_letters.binds (ps := ["column"]) fun _ _ _ _ _ _ us hl => match us, hl with | [_], _ => rfl⟩
  have Fcolumn_number := fun_mk (st := top 16) hlcolumn_number hccolumn_number hkcolumn_number
  have Dcolumn_number : DefT K mg "column_number" (top 16) ["letters"] := ⟨f_column_number, _, Fcolumn_number, PySem.W.mg_of X G hacolumn_number, hkcolumn_number, Fcolumn_number.binds (ps := ["letters"]) fun _ _ _ _ _ _ us hl => match us, hl with | [_], _ => rfl⟩
  have Fletters_of := fun_mk (st := top 17) hlletters_of hcletters_of hkletters_of
  have Dletters_of : DefT K mg "letters_of" (top 17) ["column"] := ⟨f_letters_of, _, Fletters_of, PySem.W.mg_of X G haletters_of, hkletters_of, Fletters_of.binds (ps := ["column"]) fun _ _ _ _ _ _ us hl => match us, hl with | [_], _ => rfl⟩
  have Fcolumn_of := fun_mk (st := top 18) hlcolumn_of hccolumn_of hkcolumn_of
  have Dcolumn_of : DefT K mg "column_of" (top 18) ["letters"] := ⟨f_column_of, _, Fcolumn_of, PySem.W.mg_of X G hacolumn_of, hkcolumn_of, Fcolumn_of.binds (ps := ["letters"]) fun _ _ _ _ _ _ us hl => match us, hl with | [_], _ => rfl⟩
  have F_law_draw := fun_mk (st := top 21) hl_law_draw hc_law_draw hk_law_draw
  have D_law_draw : DefT K mg "_law_draw" (top 21) ["_law_pen_here", "_law_span"] := ⟨f__law_draw, _, F_law_draw, PySem.W.mg_of X G ha_law_draw, hk_law_draw, F_law_draw.binds (ps := ["_law_pen_here", "_law_span"]) fun _ _ _ _ _ _ us hl => match us, hl with | [_, _], _ => rfl⟩
  have F_law_pick := fun_mk (st := top 22) hl_law_pick hc_law_pick hk_law_pick
  have D_law_pick : DefT K mg "_law_pick" (top 22) ["_law_pen_here", "_law_menu"] := ⟨f__law_pick, _, F_law_pick, PySem.W.mg_of X G ha_law_pick, hk_law_pick, F_law_pick.binds (ps := ["_law_pen_here", "_law_menu"]) fun _ _ _ _ _ _ us hl => match us, hl with | [_, _], _ => rfl⟩
  have F_law_signs := fun_mk (st := top 23) hl_law_signs hc_law_signs hk_law_signs
  have D_law_signs : DefT K mg "_law_signs" (top 23) [] := ⟨f__law_signs, _, F_law_signs, PySem.W.mg_of X G ha_law_signs, hk_law_signs, F_law_signs.binds (ps := []) fun _ _ _ _ _ _ us hl => match us, hl with | [], _ => rfl⟩
  have F_law_letters := fun_mk (st := top 24) hl_law_letters hc_law_letters hk_law_letters
  have D_law_letters : DefT K mg "_law_letters" (top 24) ["_law_column_here"] := ⟨f__law_letters, _, F_law_letters, PySem.W.mg_of X G ha_law_letters, hk_law_letters, F_law_letters.binds (ps := ["_law_column_here"]) fun _ _ _ _ _ _ us hl => match us, hl with | [_], _ => rfl⟩
  have F_law_column := fun_mk (st := top 25) hl_law_column hc_law_column hk_law_column
  have D_law_column : DefT K mg "_law_column" (top 25) ["_law_letters_here"] := ⟨f__law_column, _, F_law_column, PySem.W.mg_of X G ha_law_column, hk_law_column, F_law_column.binds (ps := ["_law_letters_here"]) fun _ _ _ _ _ _ us hl => match us, hl with | [_], _ => rfl⟩
  have F_law_is_letters := fun_mk (st := top 26) hl_law_is_letters hc_law_is_letters hk_law_is_letters
  have D_law_is_letters : DefT K mg "_law_is_letters" (top 26) ["_law_text"] := ⟨f__law_is_letters, _, F_law_is_letters, PySem.W.mg_of X G ha_law_is_letters, hk_law_is_letters, F_law_is_letters.binds (ps := ["_law_text"]) fun _ _ _ _ _ _ us hl => match us, hl with | [_], _ => rfl⟩
  have F_law_mixed_case := fun_mk (st := top 27) hl_law_mixed_case hc_law_mixed_case hk_law_mixed_case
  have D_law_mixed_case : DefT K mg "_law_mixed_case" (top 27) ["_law_pen_here", "_law_text"] := ⟨f__law_mixed_case, _, F_law_mixed_case, PySem.W.mg_of X G ha_law_mixed_case, hk_law_mixed_case, F_law_mixed_case.binds (ps := ["_law_pen_here", "_law_text"]) fun _ _ _ _ _ _ us hl => match us, hl with | [_, _], _ => rfl⟩
  have D_law_told : DefC K mg "_law_told" (top 28) ["_law_call"] c__law_told := ⟨f__law_told, _, _, _, _, _, _, _, _, _, hl_law_told, hc_law_told, PySem.W.mg_of X G ha_law_told, hk_law_told, .all fun us hl => match us, hl with | [_], _ => rfl⟩
  have F_law_column_drawn := fun_mk (st := top 29) hl_law_column_drawn hc_law_column_drawn hk_law_column_drawn
  have D_law_column_drawn : DefT K mg "_law_column_drawn" (top 29) ["_law_pen_here"] := ⟨f__law_column_drawn, _, F_law_column_drawn, PySem.W.mg_of X G ha_law_column_drawn, hk_law_column_drawn, F_law_column_drawn.binds (ps := ["_law_pen_here"]) fun _ _ _ _ _ _ us hl => match us, hl with | [_], _ => rfl⟩
  have F_law_letters_right := fun_mk (st := top 30) hl_law_letters_right hc_law_letters_right hk_law_letters_right
  have D_law_letters_right : DefT K mg "_law_letters_right" (top 30) ["_law_pen_here", "_law_column_here"] := ⟨f__law_letters_right, _, F_law_letters_right, PySem.W.mg_of X G ha_law_letters_right, hk_law_letters_right, F_law_letters_right.binds (ps := ["_law_pen_here", "_law_column_here"]) fun _ _ _ _ _ _ us hl => match us, hl with | [_, _], _ => rfl⟩
  have D_law_word_right : DefC K mg "_law_word_right" (top 31) ["_law_pen_here"] c__law_word_right := ⟨f__law_word_right, _, _, _, _, _, _, _, _, _, hl_law_word_right, hc_law_word_right, PySem.W.mg_of X G ha_law_word_right, hk_law_word_right, .all fun us hl => match us, hl with | [_], _ => rfl⟩
  have D_law_refused_right : DefC K mg "_law_refused_right" (top 32) ["_law_pen_here"] c__law_refused_right := ⟨f__law_refused_right, _, _, _, _, _, _, _, _, _, hl_law_refused_right, hc_law_refused_right, PySem.W.mg_of X G ha_law_refused_right, hk_law_refused_right, .all fun us hl => match us, hl with | [_], _ => rfl⟩
  have Flaw := fun_mk (st := top 33) hllaw hclaw hklaw
  have F_law_pen := fun_mk (st := top 20) hl_law_pen hc_law_pen hk_law_pen
  have B_law_pen : Binds K _ ["_law_script"] [] := F_law_pen.binds (ps := ["_law_script"]) fun _ _ _ _ _ _ us hl => match us, hl with | [_], _ => rfl
  have T : Txt l.prog K mg A :=
    { n_ValueError := PySem.W.mg_none_of X G hn_ValueError,
      n_all := PySem.W.mg_none_of X G hn_all,
      n_bool := PySem.W.mg_none_of X G hn_bool,
      n_int := PySem.W.mg_none_of X G hn_int,
      n_isinstance := PySem.W.mg_none_of X G hn_isinstance,
      n_len := PySem.W.mg_none_of X G hn_len,
      n_list := PySem.W.mg_none_of X G hn_list,
      n_max := PySem.W.mg_none_of X G hn_max,
      n_min := PySem.W.mg_none_of X G hn_min,
      n_range := PySem.W.mg_none_of X G hn_range,
      n_str := PySem.W.mg_none_of X G hn_str,
      g_LETTERS := ⟨_, PySem.W.mg_of X G hg_LETTERS, ⟨tk_LETTERS, by rw [he_LETTERS]⟩⟩,
      g_MOST_COLUMNS := ⟨_, PySem.W.mg_of X G hg_MOST_COLUMNS, ⟨tk_MOST_COLUMNS, by rw [he_MOST_COLUMNS]⟩⟩,
      c_BadValue := PySem.W.mg_of X G ha_BadValue,
      c_NotAName := PySem.W.mg_of X G ha_NotAName,
      c_OffGrid := PySem.W.mg_of X G ha_OffGrid,
      c_SheetError := PySem.W.mg_of X G ha_SheetError,
      c_TooMany := PySem.W.mg_of X G ha_TooMany,
      e_BadValue := E_BadValue,
      e_NotAName := E_NotAName,
      xf_BadValue := ⟨hga_BadValue, hgg_BadValue, hex_BadValue, hhd_BadValue⟩,
      xf_NotAName := ⟨hga_NotAName, hgg_NotAName, hex_NotAName, hhd_NotAName⟩,
      xf_OffGrid := ⟨hga_OffGrid, hgg_OffGrid, hex_OffGrid, hhd_OffGrid⟩,
      xf_TooMany := ⟨hga_TooMany, hgg_TooMany, hex_TooMany, hhd_TooMany⟩,
      no_BadValue_value := hno_BadValue_value,
      no_NotAName_name := hno_NotAName_name,
      no_OffGrid_column := hno_OffGrid_column,
      no_OffGrid_row := hno_OffGrid_row,
      no_TooMany_most := hno_TooMany_most,
      m_BB := PySem.W.exm_ref hex_BadValue hhd_BadValue hty_BadValue hs_BadValue_BadValue,
      m_NB := PySem.W.exm_ref hex_BadValue hhd_BadValue hty_BadValue hs_NotAName_BadValue,
      m_NN := PySem.W.exm_ref hex_NotAName hhd_NotAName hty_NotAName hs_NotAName_NotAName,
      m_NS := PySem.W.exm_ref hex_SheetError hhd_SheetError hty_SheetError hs_NotAName_SheetError,
      x_N := ⟨hga_NotAName, hgg_NotAName, hex_NotAName, hhd_NotAName, hha_NotAName, hhn, hht, hhm_NotAName⟩,
      i_NN := hkt_NotAName_NotAName,
      i_NV := hkt_NotAName_ValueError,
      i_NB := hkt_NotAName_BadValue,
      d_law_told := D_law_told }
  refine ⟨PySem.W.fnOf "law" "law" (defArgs (top 33)) (defBody (top 33)) (defScope (top 33)) .none kVlaw dclaw pmlaw anlaw cvlaw ctlaw, [(c__law_word_right, p__law_word_right), (c__law_refused_right, p__law_refused_right)], spLaw K [(p__law_word_right, (("_law_word_right" : Str) ++ ".<locals>." ++ "<lambda>")), (p__law_refused_right, (("_law_refused_right" : Str) ++ ".<locals>." ++ "<lambda>"))], fun p hp => ?_, fun p hp => ?_, fun p hp => ?_, fun s u => .of_eq rfl, fun H a ns hl _ hH hS => ⟨a, ns, rfl, hl, fun p hp => ?_, hS, fun _ => rfl⟩, fun base KB GB hTB => ?_⟩
  · simp only [List.mem_cons, List.not_mem_nil, or_false] at hp
    rcases hp with rfl | rfl
    · exact hpt_law_word_right
    · exact hpt_law_refused_right
  · simp only [List.mem_cons, List.not_mem_nil, or_false] at hp
    rcases hp with rfl | rfl
    · exact hpk_law_word_right
    · exact hpk_law_refused_right
  · simp only [List.mem_cons, List.not_mem_nil, or_false] at hp
    rcases hp with rfl | rfl
    · exact PySem.W.codeHd_of_K X hch_law_word_right
    · exact PySem.W.codeHd_of_K X hch_law_refused_right
  · simp only [List.mem_cons, List.not_mem_nil, or_false] at hp
    rcases hp with rfl | rfl
    · exact hH (c__law_word_right, p__law_word_right) (by simp)
    · exact hH (c__law_refused_right, p__law_refused_right) (by simp)
  have K_is_integer : ∀ (pn : Addr) (cs : List Int), CalD l.prog w K mg base (MM K [(p__law_word_right, (("_law_word_right" : Str) ++ ".<locals>." ++ "<lambda>")), (p__law_refused_right, (("_law_refused_right" : Str) ++ ".<locals>." ++ "<lambda>"))] pn cs) 2 "is_integer" ["value"] s_is_integer := fun pn cs => cal_is_integer T Dis_integer 
  have K_need_between : ∀ (pn : Addr) (cs : List Int), CalD l.prog w K mg base (MM K [(p__law_word_right, (("_law_word_right" : Str) ++ ".<locals>." ++ "<lambda>")), (p__law_refused_right, (("_law_refused_right" : Str) ++ ".<locals>." ++ "<lambda>"))] pn cs) 3 "need_between" ["value", "least", "most"] (s_need_between A) := fun pn cs => cal_need_between T Dneed_between (K_is_integer pn cs)
  have K_need_any_string : ∀ (pn : Addr) (cs : List Int), CalD l.prog w K mg base (MM K [(p__law_word_right, (("_law_word_right" : Str) ++ ".<locals>." ++ "<lambda>")), (p__law_refused_right, (("_law_refused_right" : Str) ++ ".<locals>." ++ "<lambda>"))] pn cs) 2 "need_any_string" ["value"] (s_need_any_string A) := fun pn cs => cal_need_any_string T Dneed_any_string 
  have K_is_letter : ∀ (pn : Addr) (cs : List Int), CalD l.prog w K mg base (MM K [(p__law_word_right, (("_law_word_right" : Str) ++ ".<locals>." ++ "<lambda>")), (p__law_refused_right, (("_law_refused_right" : Str) ++ ".<locals>." ++ "<lambda>"))] pn cs) 2 "is_letter" ["sign"] s_is_letter := fun pn cs => cal_is_letter T Dis_letter 
  have K_column_letters : ∀ (pn : Addr) (cs : List Int), CalD l.prog w K mg base (MM K [(p__law_word_right, (("_law_word_right" : Str) ++ ".<locals>." ++ "<lambda>")), (p__law_refused_right, (("_law_refused_right" : Str) ++ ".<locals>." ++ "<lambda>"))] pn cs) 2 "column_letters" ["column"] s_column_letters := fun pn cs => cal_column_letters T Dcolumn_letters 
  have K_column_number : ∀ (pn : Addr) (cs : List Int), CalD l.prog w K mg base (MM K [(p__law_word_right, (("_law_word_right" : Str) ++ ".<locals>." ++ "<lambda>")), (p__law_refused_right, (("_law_refused_right" : Str) ++ ".<locals>." ++ "<lambda>"))] pn cs) 3 "column_number" ["letters"] s_column_number := fun pn cs => cal_column_number T Dcolumn_number (K_is_letter pn cs)
  have K_letters_of : ∀ (pn : Addr) (cs : List Int), CalD l.prog w K mg base (MM K [(p__law_word_right, (("_law_word_right" : Str) ++ ".<locals>." ++ "<lambda>")), (p__law_refused_right, (("_law_refused_right" : Str) ++ ".<locals>." ++ "<lambda>"))] pn cs) 4 "letters_of" ["column"] (s_letters_of A) := fun pn cs => cal_letters_of T Dletters_of (K_column_letters pn cs) (K_need_between pn cs)
  have K_column_of : ∀ (pn : Addr) (cs : List Int), CalD l.prog w K mg base (MM K [(p__law_word_right, (("_law_word_right" : Str) ++ ".<locals>." ++ "<lambda>")), (p__law_refused_right, (("_law_refused_right" : Str) ++ ".<locals>." ++ "<lambda>"))] pn cs) 4 "column_of" ["letters"] (s_column_of A) := fun pn cs => cal_column_of T Dcolumn_of (K_column_number pn cs) (K_need_any_string pn cs)
  have K__law_draw : ∀ (pn : Addr) (cs : List Int), CalD l.prog w K mg base (MM K [(p__law_word_right, (("_law_word_right" : Str) ++ ".<locals>." ++ "<lambda>")), (p__law_refused_right, (("_law_refused_right" : Str) ++ ".<locals>." ++ "<lambda>"))] pn cs) 2 "_law_draw" ["_law_pen_here", "_law_span"] s__law_draw := fun pn cs => cal__law_draw T D_law_draw 
  have K__law_pick : ∀ (pn : Addr) (cs : List Int), CalD l.prog w K mg base (MM K [(p__law_word_right, (("_law_word_right" : Str) ++ ".<locals>." ++ "<lambda>")), (p__law_refused_right, (("_law_refused_right" : Str) ++ ".<locals>." ++ "<lambda>"))] pn cs) 3 "_law_pick" ["_law_pen_here", "_law_menu"] s__law_pick := fun pn cs => cal__law_pick T D_law_pick (K__law_draw pn cs)
  have K__law_signs : ∀ (pn : Addr) (cs : List Int), CalD l.prog w K mg base (MM K [(p__law_word_right, (("_law_word_right" : Str) ++ ".<locals>." ++ "<lambda>")), (p__law_refused_right, (("_law_refused_right" : Str) ++ ".<locals>." ++ "<lambda>"))] pn cs) 2 "_law_signs" [] s__law_signs := fun pn cs => cal__law_signs T D_law_signs 
  have K__law_letters : ∀ (pn : Addr) (cs : List Int), CalD l.prog w K mg base (MM K [(p__law_word_right, (("_law_word_right" : Str) ++ ".<locals>." ++ "<lambda>")), (p__law_refused_right, (("_law_refused_right" : Str) ++ ".<locals>." ++ "<lambda>"))] pn cs) 3 "_law_letters" ["_law_column_here"] s__law_letters := fun pn cs => cal__law_letters T D_law_letters (K__law_signs pn cs)
  have K__law_column : ∀ (pn : Addr) (cs : List Int), CalD l.prog w K mg base (MM K [(p__law_word_right, (("_law_word_right" : Str) ++ ".<locals>." ++ "<lambda>")), (p__law_refused_right, (("_law_refused_right" : Str) ++ ".<locals>." ++ "<lambda>"))] pn cs) 3 "_law_column" ["_law_letters_here"] s__law_column := fun pn cs => cal__law_column T D_law_column (K__law_signs pn cs)
  have K__law_is_letters : ∀ (pn : Addr) (cs : List Int), CalD l.prog w K mg base (MM K [(p__law_word_right, (("_law_word_right" : Str) ++ ".<locals>." ++ "<lambda>")), (p__law_refused_right, (("_law_refused_right" : Str) ++ ".<locals>." ++ "<lambda>"))] pn cs) 3 "_law_is_letters" ["_law_text"] s__law_is_letters := fun pn cs => cal__law_is_letters T D_law_is_letters (K__law_signs pn cs)
  have K__law_mixed_case : ∀ (pn : Addr) (cs : List Int), CalD l.prog w K mg base (MM K [(p__law_word_right, (("_law_word_right" : Str) ++ ".<locals>." ++ "<lambda>")), (p__law_refused_right, (("_law_refused_right" : Str) ++ ".<locals>." ++ "<lambda>"))] pn cs) 3 "_law_mixed_case" ["_law_pen_here", "_law_text"] s__law_mixed_case := fun pn cs => cal__law_mixed_case T D_law_mixed_case (K__law_draw pn cs)
  have K__law_column_drawn : ∀ (pn : Addr) (cs : List Int), CalD l.prog w K mg base (MM K [(p__law_word_right, (("_law_word_right" : Str) ++ ".<locals>." ++ "<lambda>")), (p__law_refused_right, (("_law_refused_right" : Str) ++ ".<locals>." ++ "<lambda>"))] pn cs) 4 "_law_column_drawn" ["_law_pen_here"] s__law_column_drawn := fun pn cs => cal__law_column_drawn T D_law_column_drawn (K__law_draw pn cs) (K__law_pick pn cs)
  have K__law_letters_right : ∀ (pn : Addr) (cs : List Int), CalD l.prog w K mg base (MM K [(p__law_word_right, (("_law_word_right" : Str) ++ ".<locals>." ++ "<lambda>")), (p__law_refused_right, (("_law_refused_right" : Str) ++ ".<locals>." ++ "<lambda>"))] pn cs) 5 "_law_letters_right" ["_law_pen_here", "_law_column_here"] s__law_letters_right := fun pn cs => cal__law_letters_right T D_law_letters_right (K__law_is_letters pn cs) (K__law_letters pn cs) (K__law_mixed_case pn cs) (K__law_signs pn cs) (K_column_of pn cs) (K_letters_of pn cs)
  have TU_law_word_right : ∀ p ∈ ([(p__law_word_right, (("_law_word_right" : Str) ++ ".<locals>." ++ "<lambda>")), (p__law_refused_right, (("_law_refused_right" : Str) ++ ".<locals>." ++ "<lambda>"))] : List (Addr × Str)), p.1 = p__law_word_right → p.2 = (("_law_word_right" : Str) ++ ".<locals>." ++ "<lambda>") := fun p hp e => by
      simp only [List.mem_cons, List.not_mem_nil, or_false] at hp
      rcases hp with rfl | rfl
      · rfl
      · exact absurd e.symm hne_law_word_right_law_refused_right
  have K__law_word_right : ∀ (pn : Addr) (cs : List Int), CalD l.prog w K mg base (MM K [(p__law_word_right, (("_law_word_right" : Str) ++ ".<locals>." ++ "<lambda>")), (p__law_refused_right, (("_law_refused_right" : Str) ++ ".<locals>." ++ "<lambda>"))] pn cs) 7 "_law_word_right" ["_law_pen_here"] s__law_word_right := fun pn cs => cal__law_word_right T D_law_word_right (K__law_column pn cs) (K__law_draw pn cs) (K__law_is_letters pn cs) (K__law_pick pn cs) (K__law_signs pn cs) (K_column_of pn cs) (hTB (c__law_word_right, p__law_word_right) List.mem_cons_self) List.mem_cons_self TU_law_word_right
  have TU_law_refused_right : ∀ p ∈ ([(p__law_word_right, (("_law_word_right" : Str) ++ ".<locals>." ++ "<lambda>")), (p__law_refused_right, (("_law_refused_right" : Str) ++ ".<locals>." ++ "<lambda>"))] : List (Addr × Str)), p.1 = p__law_refused_right → p.2 = (("_law_refused_right" : Str) ++ ".<locals>." ++ "<lambda>") := fun p hp e => by
      simp only [List.mem_cons, List.not_mem_nil, or_false] at hp
      rcases hp with rfl | rfl
      · exact absurd e hne_law_word_right_law_refused_right
      · rfl
  have K__law_refused_right : ∀ (pn : Addr) (cs : List Int), CalD l.prog w K mg base (MM K [(p__law_word_right, (("_law_word_right" : Str) ++ ".<locals>." ++ "<lambda>")), (p__law_refused_right, (("_law_refused_right" : Str) ++ ".<locals>." ++ "<lambda>"))] pn cs) 7 "_law_refused_right" ["_law_pen_here"] s__law_refused_right := fun pn cs => cal__law_refused_right T D_law_refused_right (K__law_pick pn cs) (K_column_of pn cs) (K_letters_of pn cs) (hTB (c__law_refused_right, p__law_refused_right) (List.mem_cons_of_mem _ List.mem_cons_self)) (List.mem_cons_of_mem _ List.mem_cons_self) TU_law_refused_right
  exact ok_law T Flaw F_law_pen B_law_pen (PySem.W.mg_of X G ha_law_pen) hk_law_pen (PySem.W.mg_none_of X G hn_list) K__law_column_drawn K__law_letters_right K__law_refused_right K__law_word_right
end K15
open PySem PySem.W PyProof.Rows
set_option maxRecDepth 100000 in
set_option maxHeartbeats 8000000 in
theorem PySem.Challenge.cw_allinputs_k15_letters_of_columns_holds : PySem.Challenge.rw_allinputs_k15_letters_of_columns.Holds := by
  w_on; o_law; k_head; (case hw => w_witness2)
  k_fill
  refine LamX.walk_ofTs (l := PySem.Challenge.rw_allinputs_k15_letters_of_columns) (n := 63) (k := 8) (CX := fun w => L2.CX PySem.Challenge.rw_allinputs_k15_letters_of_columns.prog w) (x := "_law_script") rfl (by decide) rfl ⟨rfl, by decide, by decide⟩ (fun w h Y => PySem.W.km_in_of Y) ?F (fun w H s e s' ⟨_, _, _, _, _, _, _, _, _, _, _, _, z⟩ => z)
  case F =>
    intro w mg fa h Y KX G hmg
    refine' K15.fin _ KX G hmg ?qn_ValueError ?qn_all ?qn_bool ?qn_int ?qn_isinstance ?qn_len ?qn_list ?qn_max ?qn_min ?qn_range ?qn_str ?qn_super ?qg_LETTERS ?qe_LETTERS ?qg_MOST_COLUMNS ?qe_MOST_COLUMNS ?qa_BadValue ?qa_NotAName ?qa_OffGrid ?qa_SheetError ?qa_TooMany ?qex_BadValue ?qhd_BadValue ?qty_BadValue ?qga_BadValue ?qgg_BadValue ?qno_BadValue_value ?qex_NotAName ?qhd_NotAName ?qty_NotAName ?qga_NotAName ?qgg_NotAName ?qno_NotAName_name ?qex_OffGrid ?qhd_OffGrid ?qty_OffGrid ?qga_OffGrid ?qgg_OffGrid ?qno_OffGrid_column ?qno_OffGrid_row ?qex_SheetError ?qhd_SheetError ?qty_SheetError ?qex_TooMany ?qhd_TooMany ?qty_TooMany ?qga_TooMany ?qgg_TooMany ?qno_TooMany_most ?qopq ?qhtop ?qx_BadValue ?qv_BadValue ?qsa_BadValue ?qi_BadValue ?qt_BadValue ?ql_BadValue ?qco_BadValue ?qlc_BadValue ?qvf_BadValue ?qff_BadValue ?qlx_BadValue ?qk_BadValue ?qve_BadValue ?qsu_BadValue ?qse_BadValue ?qx_NotAName ?qv_NotAName ?qsa_NotAName ?qi_NotAName ?qt_NotAName ?ql_NotAName ?qco_NotAName ?qlc_NotAName ?qvf_NotAName ?qff_NotAName ?qlx_NotAName ?qk_NotAName ?qve_NotAName ?qsu_NotAName ?qse_NotAName ?qs_BadValue_BadValue ?qs_NotAName_BadValue ?qs_NotAName_NotAName ?qs_NotAName_SheetError ?qha_NotAName ?qhm_NotAName ?qhn ?qht ?qkt_NotAName_NotAName ?qkt_NotAName_ValueError ?qkt_NotAName_BadValue ?qais_integer ?qlis_integer ?qcis_integer ?qkis_integer ?qaneed_between ?qlneed_between ?qcneed_between ?qkneed_between ?qaneed_any_string ?qlneed_any_string ?qcneed_any_string ?qkneed_any_string ?qais_letter ?qlis_letter ?qcis_letter ?qkis_letter ?qacolumn_letters ?qlcolumn_letters ?qccolumn_letters ?qkcolumn_letters ?qacolumn_number ?qlcolumn_number ?qccolumn_number ?qkcolumn_number ?qaletters_of ?qlletters_of ?qcletters_of ?qkletters_of ?qacolumn_of ?qlcolumn_of ?qccolumn_of ?qkcolumn_of ?qa_law_draw ?ql_law_draw ?qc_law_draw ?qk_law_draw ?qa_law_pick ?ql_law_pick ?qc_law_pick ?qk_law_pick ?qa_law_signs ?ql_law_signs ?qc_law_signs ?qk_law_signs ?qa_law_letters ?ql_law_letters ?qc_law_letters ?qk_law_letters ?qa_law_column ?ql_law_column ?qc_law_column ?qk_law_column ?qa_law_is_letters ?ql_law_is_letters ?qc_law_is_letters ?qk_law_is_letters ?qa_law_mixed_case ?ql_law_mixed_case ?qc_law_mixed_case ?qk_law_mixed_case ?qa_law_told ?ql_law_told ?qc_law_told ?qk_law_told ?qa_law_column_drawn ?ql_law_column_drawn ?qc_law_column_drawn ?qk_law_column_drawn ?qa_law_letters_right ?ql_law_letters_right ?qc_law_letters_right ?qk_law_letters_right ?qa_law_word_right ?ql_law_word_right ?qc_law_word_right ?qk_law_word_right ?qa_law_refused_right ?ql_law_refused_right ?qc_law_refused_right ?qk_law_refused_right ?qalaw ?qllaw ?qclaw ?qklaw ?qa_law_pen ?ql_law_pen ?qc_law_pen ?qk_law_pen ?qcl_law_word_right ?qcp_law_word_right ?qch_law_word_right ?qpt_law_word_right ?qpk_law_word_right ?qcl_law_refused_right ?qcp_law_refused_right ?qch_law_refused_right ?qpt_law_refused_right ?qpk_law_refused_right ?qne_law_word_right_law_refused_right
    (case qn_ValueError => k_is)
    (case qn_all => k_is)
    (case qn_bool => k_is)
    (case qn_int => k_is)
    (case qn_isinstance => k_is)
    (case qn_len => k_is)
    (case qn_list => k_is)
    (case qn_max => k_is)
    (case qn_min => k_is)
    (case qn_range => k_is)
    (case qn_str => k_is)
    (case qn_super => k_is)
    (case qg_LETTERS => k_is)
    (case qe_LETTERS => decide +kernel)
    (case qg_MOST_COLUMNS => k_is)
    (case qe_MOST_COLUMNS => rfl)
    (case qa_BadValue => k_is)
    (case qa_NotAName => k_is)
    (case qa_OffGrid => k_is)
    (case qa_SheetError => k_is)
    (case qa_TooMany => k_is)
    (case qex_BadValue => k_is)
    (case qhd_BadValue => k_is)
    (case qty_BadValue => k_is)
    (case qga_BadValue => k_is)
    (case qgg_BadValue => k_is)
    (case qno_BadValue_value => k_is)
    (case qex_NotAName => k_is)
    (case qhd_NotAName => k_is)
    (case qty_NotAName => k_is)
    (case qga_NotAName => k_is)
    (case qgg_NotAName => k_is)
    (case qno_NotAName_name => k_is)
    (case qex_OffGrid => k_is)
    (case qhd_OffGrid => k_is)
    (case qty_OffGrid => k_is)
    (case qga_OffGrid => k_is)
    (case qgg_OffGrid => k_is)
    (case qno_OffGrid_column => k_is)
    (case qno_OffGrid_row => k_is)
    (case qex_SheetError => k_is)
    (case qhd_SheetError => k_is)
    (case qty_SheetError => k_is)
    (case qex_TooMany => k_is)
    (case qhd_TooMany => k_is)
    (case qty_TooMany => k_is)
    (case qga_TooMany => k_is)
    (case qgg_TooMany => k_is)
    (case qno_TooMany_most => k_is)
    (case qopq => k_is)
    (case qhtop => decide +kernel)
    (case qx_BadValue => k_is)
    (case qv_BadValue => decide +kernel)
    (case qsa_BadValue => k_is)
    (case qi_BadValue => k_is)
    (case qt_BadValue => k_is)
    (case ql_BadValue => k_is)
    (case qco_BadValue => k_is)
    (case qlc_BadValue => k_is)
    (case qvf_BadValue => rfl)
    (case qff_BadValue => decide +kernel)
    (case qlx_BadValue => k_is)
    (case qk_BadValue => k_is)
    (case qve_BadValue => k_is)
    (case qsu_BadValue => first | k_is | rfl | kernel_rfl)
    (case qse_BadValue => k_is)
    (case qx_NotAName => k_is)
    (case qv_NotAName => decide +kernel)
    (case qsa_NotAName => k_is)
    (case qi_NotAName => k_is)
    (case qt_NotAName => k_is)
    (case ql_NotAName => k_is)
    (case qco_NotAName => k_is)
    (case qlc_NotAName => k_is)
    (case qvf_NotAName => rfl)
    (case qff_NotAName => decide +kernel)
    (case qlx_NotAName => k_is)
    (case qk_NotAName => k_is)
    (case qve_NotAName => k_is)
    (case qsu_NotAName => first | k_is | rfl | kernel_rfl)
    (case qse_NotAName => k_is)
    (case qs_BadValue_BadValue => first | k_is | rfl)
    (case qs_NotAName_BadValue => first | k_is | rfl)
    (case qs_NotAName_NotAName => first | k_is | rfl)
    (case qs_NotAName_SheetError => first | k_is | rfl)
    (case qha_NotAName => k_is)
    (case qhm_NotAName => k_is)
    (case qhn => k_is)
    (case qht => k_is)
    (case qkt_NotAName_NotAName => first | k_is | rfl)
    (case qkt_NotAName_ValueError => first | k_is | rfl)
    (case qkt_NotAName_BadValue => first | k_is | rfl)
    (case qais_integer => k_is)
    (case qlis_integer => k_is)
    (case qcis_integer => k_is)
    (case qkis_integer => k_is)
    (case qaneed_between => k_is)
    (case qlneed_between => k_is)
    (case qcneed_between => k_is)
    (case qkneed_between => k_is)
    (case qaneed_any_string => k_is)
    (case qlneed_any_string => k_is)
    (case qcneed_any_string => k_is)
    (case qkneed_any_string => k_is)
    (case qais_letter => k_is)
    (case qlis_letter => k_is)
    (case qcis_letter => k_is)
    (case qkis_letter => k_is)
    (case qacolumn_letters => k_is)
    (case qlcolumn_letters => k_is)
    (case qccolumn_letters => k_is)
    (case qkcolumn_letters => k_is)
    (case qacolumn_number => k_is)
    (case qlcolumn_number => k_is)
    (case qccolumn_number => k_is)
    (case qkcolumn_number => k_is)
    (case qaletters_of => k_is)
    (case qlletters_of => k_is)
    (case qcletters_of => k_is)
    (case qkletters_of => k_is)
    (case qacolumn_of => k_is)
    (case qlcolumn_of => k_is)
    (case qccolumn_of => k_is)
    (case qkcolumn_of => k_is)
    (case qa_law_draw => k_is)
    (case ql_law_draw => k_is)
    (case qc_law_draw => k_is)
    (case qk_law_draw => k_is)
    (case qa_law_pick => k_is)
    (case ql_law_pick => k_is)
    (case qc_law_pick => k_is)
    (case qk_law_pick => k_is)
    (case qa_law_signs => k_is)
    (case ql_law_signs => k_is)
    (case qc_law_signs => k_is)
    (case qk_law_signs => k_is)
    (case qa_law_letters => k_is)
    (case ql_law_letters => k_is)
    (case qc_law_letters => k_is)
    (case qk_law_letters => k_is)
    (case qa_law_column => k_is)
    (case ql_law_column => k_is)
    (case qc_law_column => k_is)
    (case qk_law_column => k_is)
    (case qa_law_is_letters => k_is)
    (case ql_law_is_letters => k_is)
    (case qc_law_is_letters => k_is)
    (case qk_law_is_letters => k_is)
    (case qa_law_mixed_case => k_is)
    (case ql_law_mixed_case => k_is)
    (case qc_law_mixed_case => k_is)
    (case qk_law_mixed_case => k_is)
    (case qa_law_told => k_is)
    (case ql_law_told => k_is)
    (case qc_law_told => k_is)
    (case qk_law_told => k_is)
    (case qa_law_column_drawn => k_is)
    (case ql_law_column_drawn => k_is)
    (case qc_law_column_drawn => k_is)
    (case qk_law_column_drawn => k_is)
    (case qa_law_letters_right => k_is)
    (case ql_law_letters_right => k_is)
    (case qc_law_letters_right => k_is)
    (case qk_law_letters_right => k_is)
    (case qa_law_word_right => k_is)
    (case ql_law_word_right => k_is)
    (case qc_law_word_right => k_is)
    (case qk_law_word_right => k_is)
    (case qa_law_refused_right => k_is)
    (case ql_law_refused_right => k_is)
    (case qc_law_refused_right => k_is)
    (case qk_law_refused_right => k_is)
    (case qalaw => k_is)
    (case qllaw => k_is)
    (case qclaw => k_is)
    (case qklaw => k_is)
    (case qa_law_pen => k_is)
    (case ql_law_pen => k_is)
    (case qc_law_pen => k_is)
    (case qk_law_pen => k_is)
    (case qcl_law_word_right => k_is)
    (case qcp_law_word_right => rfl)
    (case qch_law_word_right => first | k_is | rfl)
    (case qpt_law_word_right => exact PySem.W.km_tabs_of Y _ (by decide))
    (case qpk_law_word_right => first | k_is | rfl)
    (case qcl_law_refused_right => k_is)
    (case qcp_law_refused_right => rfl)
    (case qch_law_refused_right => first | k_is | rfl)
    (case qpt_law_refused_right => exact PySem.W.km_tabs_of Y _ (by decide))
    (case qpk_law_refused_right => first | k_is | rfl)
    (case qne_law_word_right_law_refused_right => decide)
