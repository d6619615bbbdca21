import PyProof.Rows.All
import Wide.All
import OpenK.AllK
import Wide.FinOn
import HandS.ForMost
import HandS.Exc
import HandS.TryOnly
import HandS.ExcOwn
import HandS.WordsExc
import HandS.CallSlots
import HandS.IsInst
import HandS.Wide
import HandS.Lambda
import HandS.ExcField
import KE.KDictList
import PyProof.StrWalks
import HandS.TupAny
import HandS.Replace
import HandS.Defaults
import HandS.Codes
import KE.KSuper
import KE.KExcSuper
import HandS.ExcIs
import KE.KExcIs
import HandS.Dict
import HandS.ExcInit
import HandS.MakeKwOnly
import KE.KIntText
import KE.IntTextLaws
import HandS.SortKw
import KE.KSortKey
import HandS.Keys
import HandS.TupLe
import HandS.Deep
import HandS.Style
import HandS.Iter
import HandS.Sort
import HandS.OwnEq
import PySem.Challenge.RW_allinputs_k17_areas
import HandS.EndTab
set_option Elab.async false
set_option linter.all false
set_option maxRecDepth 100000
set_option maxHeartbeats 4000000
set_option autoImplicit false
/-! The data layer: values as trees, the heap out of sight. -/
namespace DL
open PySem PySem.Spec PyProof.Rows L2
abbrev Frag := PySem.W.Frag
abbrev S (l : List Nat) : Str := ⟨l.toArray⟩
/-- a value as a tree; exc: a caught exception at a, of the class C, its dict dd; thk: a lambda f whose code object is c, made where the slots are σ -/
inductive D where
  | non | bl (b : Bool) | int (i : Int) | str (l : List Nat) | ty (n : String) | ref (a : Addr)
  | pen | lst (xs : List D) | tup (xs : List D) | ins (C : Addr) (ns : List Str) (xs : List D)
  | exc (a C dd : Addr) (ns : List Str) (xs : List D)
  | thk (f c : Addr) (q : Str) (σ : List (Option V)) (δ : List (Option D))
/-- what may change: a list, an instance, a dict -/
inductive MO where
  | lst (xs : List D) | ins (C dx : Addr) (ns : List Str) (xs : List D) | dic (ks : List Key) (xs : List D) | rng (lo hi : Int)
/-- how far a run is: draws so far, the objects that may change -/
structure NS where
  at_ : Nat
  mu : Addr → Option MO
/-- mu with o at a -/
def mup (m : Addr → Option MO) (a : Addr) (o : Option MO) : Addr → Option MO := fun b => if b = a then o else m b
@[simp] theorem mup_same {m : Addr → Option MO} {a : Addr} {o : Option MO} : mup m a o a = o := if_pos rfl
theorem mup_ne {m : Addr → Option MO} {a b : Addr} {o : Option MO} (h : b ≠ a) : mup m a o b = m b := if_neg h
theorem mup_mup {m : Addr → Option MO} {a : Addr} {o u : Option MO} : mup (mup m a o) a u = mup m a u := by
  funext b
  unfold mup
  split <;> rfl
theorem mup_back {m : Addr → Option MO} {a : Addr} (h : m a = none) : mup m a none = m := by
  funext b
  unfold mup
  split
  · subst b; exact h.symm
  · rfl
/-- a law's statics: the written part, the tables of code objects -/
structure LC where
  K : Frag
  T : List (Addr × Str)
/-- a law's constants: how the pen's keys are called; where the pen stands, its numbers -/
structure LK where
  L : LC
  ka : Str
  kl : Str
  pn : Addr
  cs : List Int
def names : List (Str × V) → List Str := fun l => l.map (·.1)
mutual
def Is (M : LK) (G : Hp) : V → D → Prop
  | v, .non => v = .non
  | v, .bl b => v = .bl b
  | v, .int i => v = .int i
  | v, .str l => v = .str (S l)
  | v, .ty n => v = .ty n
  | v, .ref a => v = .ref a
  | v, .pen => v = .ref M.pn
  | v, .lst xs => ∃ p vs, v = .ref p ∧ G p = some (.lst vs) ∧ IsL M G vs xs
  | v, .tup xs => ∃ p vs, v = .ref p ∧ SqT M.L.K G p vs ∧ IsL M G vs xs
  | v, .ins C ns xs => ∃ p dx fs, v = .ref p ∧ G p = some (.ins C dx fs) ∧ fs.map (·.1) = ns ∧ IsL M G (fs.map (·.2)) xs
  | v, .exc a C dd ns xs => v = .ref a ∧ ∃ fs, G dd = some (.xd fs) ∧ fs.map (·.1) = ns ∧ IsL M G (fs.map (·.2)) xs
  | v, .thk f c q σ δ => v = .ref f ∧ G c = some (LamX.CodeO c q) ∧ IsE M G σ δ
def IsL (M : LK) (G : Hp) : List V → List D → Prop
  | [], [] => True
  | v :: vs, d :: ds => Is M G v d ∧ IsL M G vs ds
  | _, _ => False
def IsE (M : LK) (G : Hp) : List (Option V) → List (Option D) → Prop
  | [], [] => True
  | v :: vs, d :: ds => IsO M G v d ∧ IsE M G vs ds
  | _, _ => False
def IsO (M : LK) (G : Hp) : Option V → Option D → Prop
  | _, none => True
  | some v, some d => Is M G v d
  | none, some _ => False
end
/-- G grows -/
def Ext (G G' : Hp) : Prop := ∀ a o, G a = some o → G' a = some o
theorem Ext.refl (G : Hp) : Ext G G := fun _ _ h => h
theorem Ext.trans {G G1 G2 : Hp} (a : Ext G G1) (b : Ext G1 G2) : Ext G G2 := fun c o h => b c o (a c o h)
theorem Ext.new {G : Hp} {p : Addr} {o : HO} (h : G p = none) : Ext G (upd G p o) := fun a u e => by
  rw [upd_ne (ne_of_none e h)]
  exact e
theorem Ext.seqT {K : Frag} {G G' : Hp} {a : Addr} {xs : List V} (e : Ext G G') (h : SqT K G a xs) : SqT K G' a xs := by
  rcases h with (h | ⟨o, h⟩) | h
  · exact .inl (.inl (e _ _ h))
  · exact .inl (.inr ⟨o, e _ _ h⟩)
  · exact .inr h
theorem Ext.seqL {K : Frag} {G G' : Hp} {a : Addr} {xs : List V} (e : Ext G G') (h : SqL K G a xs) : SqL K G' a xs := by
  rcases h with (h | ⟨o, h⟩) | h
  · exact .inl (.inl (e _ _ h))
  · exact .inl (.inr ⟨o, e _ _ h⟩)
  · exact .inr h
mutual
theorem Is.up {M : LK} {G G' : Hp} (e : Ext G G') : ∀ (d : D) (v : V), Is M G v d → Is M G' v d
  | .non, _, h => h
  | .bl _, _, h => h
  | .int _, _, h => h
  | .str _, _, h => h
  | .ty _, _, h => h
  | .ref _, _, h => h
  | .pen, _, h => h
  | .lst xs, v, h => by
    simp only [Is] at h ⊢
    obtain ⟨p, vs, h1, h2, h3⟩ := h
    exact ⟨p, vs, h1, e _ _ h2, IsL.up e xs vs h3⟩
  | .tup xs, v, h => by
    simp only [Is] at h ⊢
    obtain ⟨p, vs, h1, h2, h3⟩ := h
    exact ⟨p, vs, h1, e.seqT h2, IsL.up e xs vs h3⟩
  | .ins C ns xs, v, h => by
    simp only [Is] at h ⊢
    obtain ⟨p, dx, fs, h1, h2, h3, h4⟩ := h
    exact ⟨p, dx, fs, h1, e _ _ h2, h3, IsL.up e xs _ h4⟩
  | .exc a C dd ns xs, v, h => by
    simp only [Is] at h ⊢
    obtain ⟨h1, fs, h2, h3, h4⟩ := h
    exact ⟨h1, fs, e _ _ h2, h3, IsL.up e xs _ h4⟩
  | .thk f c q σ δ, v, h => by
    simp only [Is] at h ⊢
    exact ⟨h.1, e _ _ h.2.1, IsE.up e δ σ h.2.2⟩
theorem IsL.up {M : LK} {G G' : Hp} (e : Ext G G') : ∀ (ds : List D) (vs : List V), IsL M G vs ds → IsL M G' vs ds
  | [], [], _ => by simp only [IsL]
  | d :: ds, v :: vs, h => by
    simp only [IsL] at h ⊢
    exact ⟨Is.up e d v h.1, IsL.up e ds vs h.2⟩
  | [], _ :: _, h => by simp only [IsL] at h
  | _ :: _, [], h => by simp only [IsL] at h
theorem IsE.up {M : LK} {G G' : Hp} (e : Ext G G') : ∀ (ds : List (Option D)) (vs : List (Option V)), IsE M G vs ds → IsE M G' vs ds
  | [], [], _ => by simp only [IsE]
  | d :: ds, v :: vs, h => by
    simp only [IsE] at h ⊢
    exact ⟨IsO.up e d v h.1, IsE.up e ds vs h.2⟩
  | [], _ :: _, h => by simp only [IsE] at h
  | _ :: _, [], h => by simp only [IsE] at h
theorem IsO.up {M : LK} {G G' : Hp} (e : Ext G G') : ∀ (d : Option D) (v : Option V), IsO M G v d → IsO M G' v d
  | none, _, _ => by simp only [IsO]
  | some d, some v, h => by
    simp only [IsO] at h ⊢
    exact Is.up e d v h
  | some _, none, h => by simp only [IsO] at h
end
theorem IsL.length {M : LK} {G : Hp} : ∀ {ds : List D} {vs : List V}, IsL M G vs ds → vs.length = ds.length
  | [], [], _ => rfl
  | d :: ds, v :: vs, h => by
    simp only [IsL] at h
    simp only [List.length_cons, IsL.length h.2]
  | [], _ :: _, h => by simp only [IsL] at h
  | _ :: _, [], h => by simp only [IsL] at h
theorem IsL.get {M : LK} {G : Hp} : ∀ {ds : List D} {vs : List V} {i : Nat} {d : D}, IsL M G vs ds → ds[i]? = some d → ∃ v, vs[i]? = some v ∧ Is M G v d
  | [], [], i, d, _, e => by simp at e
  | x :: ds, v :: vs, 0, d, h, e => by
    simp only [IsL] at h
    simp at e
    subst e
    exact ⟨v, rfl, h.1⟩
  | x :: ds, v :: vs, i + 1, d, h, e => by
    simp only [IsL] at h
    obtain ⟨u, h1, h2⟩ := IsL.get (i := i) h.2 (by simpa using e)
    exact ⟨u, by simpa using h1, h2⟩
  | [], _ :: _, _, _, h, _ => by simp only [IsL] at h
  | _ :: _, [], _, _, h, _ => by simp only [IsL] at h
theorem IsL.append {M : LK} {G : Hp} : ∀ {ds es : List D} {vs us : List V}, IsL M G vs ds → IsL M G us es → IsL M G (vs ++ us) (ds ++ es)
  | [], _, [], _, _, g => g
  | d :: ds, es, v :: vs, us, h, g => by
    simp only [IsL, List.cons_append] at h ⊢
    exact ⟨h.1, IsL.append h.2 g⟩
  | [], _, _ :: _, _, h, _ => by simp only [IsL] at h
  | _ :: _, _, [], _, h, _ => by simp only [IsL] at h
theorem IsL.take {M : LK} {G : Hp} : ∀ {ds : List D} {vs : List V} (n : Nat), IsL M G vs ds → IsL M G (vs.take n) (ds.take n)
  | _, _, 0, _ => by simp only [List.take_zero, IsL]
  | [], [], n + 1, _ => by simp only [List.take_nil, IsL]
  | d :: ds, v :: vs, n + 1, h => by
    simp only [IsL, List.take_succ_cons] at h ⊢
    exact ⟨h.1, IsL.take n h.2⟩
  | [], _ :: _, _ + 1, h => by simp only [IsL] at h
  | _ :: _, [], _ + 1, h => by simp only [IsL] at h
theorem IsL.drop {M : LK} {G : Hp} : ∀ {ds : List D} {vs : List V} (n : Nat), IsL M G vs ds → IsL M G (vs.drop n) (ds.drop n)
  | _, _, 0, h => h
  | [], [], n + 1, _ => by simp only [List.drop_nil, IsL]
  | d :: ds, v :: vs, n + 1, h => by
    simp only [IsL, List.drop_succ_cons] at h ⊢
    exact IsL.drop n h.2
  | [], _ :: _, _ + 1, h => by simp only [IsL] at h
  | _ :: _, [], _ + 1, h => by simp only [IsL] at h
/-- the pen: a dict of three entries; at below n -/
structure PenOk (K : Frag) (ka kl : Str) (cs : List Int) (pn : Addr) (n : Nat) (G H : Hp) : Prop where
  ob : ∃ (la : Addr) (ns : List Int) (a l : Int), H pn = some (.dK [(.inr "cells", .ref la), (.inr ka, .int a), (.inr kl, .int l)]) ∧ G la = some (.lst (ns.map V.int)) ∧ ns.length ≤ 63 ∧ 0 ≤ a ∧ a ≤ n ∧ 0 ≤ l ∧ ns = cs
  fr : G pn = none
def notTbl (o : HO) : Prop := ∀ ps, o ≠ .tbl ps
/-- what stands at a place that may change -/
def MIs (M : LK) (G : Hp) : HO → MO → Prop
  | .lst vs, .lst xs => IsL M G vs xs
  | .ins C dx fs, .ins C' dx' ns xs => C = C' ∧ dx = dx' ∧ fs.map (·.1) = ns ∧ IsL M G (fs.map (·.2)) xs
  | .dK kvs, .dic ks xs => kvs.map (·.1) = ks ∧ IsL M G (kvs.map (·.2)) xs
  | .rng a b, .rng c d => a = c ∧ b = d
  | _, _ => False
theorem MIs.up {M : LK} {G G' : Hp} {h : HO} {o : MO} (e : Ext G G') (i : MIs M G h o) : MIs M G' h o := by
  cases h <;> cases o <;> simp only [MIs] at i ⊢
  · exact IsL.up e _ _ i
  · exact ⟨i.1, IsL.up e _ _ i.2⟩
  · exact ⟨i.1, i.2.1, i.2.2.1, IsL.up e _ _ i.2.2.2⟩
  · exact i
theorem MIs.nt {M : LK} {G : Hp} {h : HO} {o : MO} (i : MIs M G h o) : notTbl h := fun ps z => by
  subst z
  cases o <;> simp only [MIs] at i
structure EnvIs (M : LK) (G : Hp) (σ : L2.St) (δ : List (Option D)) : Prop where
  len : σ.length = δ.length
  at_ : ∀ (i : Nat) (d : D), δ[i]? = some (some d) → ∃ v, σ[i]? = some (some v) ∧ Is M G v d
structure Rep (M : LK) (pn : Addr) (G : Hp) (n : NS) (σ : L2.St) (δ : List (Option D)) (H : Hp) : Prop where
  ex : Ext G H
  pen : PenOk M.L.K M.ka M.kl M.cs pn n.at_ G H
  tab : LamX.Tabs M.L.T H
  nt : ∀ a o, G a = some o → notTbl o
  pe : pn = M.pn
  mu : ∀ a o, n.mu a = some o → ∃ h, H a = some h ∧ MIs M G h o ∧ G a = none ∧ a ≠ pn
  env : EnvIs M G σ δ
/-- from (G, H) on to (G', H'): what is known stays -/
structure Adv (pn : Addr) (G H G' H' : Hp) : Prop where
  ge : Ext G G'
theorem Adv.refl {pn : Addr} {G H : Hp} : Adv pn G H G H := ⟨Ext.refl _⟩
theorem Adv.trans {pn : Addr} {G H G1 H1 G2 H2 : Hp} (a : Adv pn G H G1 H1) (b : Adv pn G1 H1 G2 H2) : Adv pn G H G2 H2 := ⟨a.ge.trans b.ge⟩
theorem notTbl_dK {kvs : List (Key × V)} : notTbl (.dK kvs) := fun ps z => by cases z
theorem notTbl_lst {xs : List V} : notTbl (.lst xs) := fun ps z => by cases z
theorem notTbl_tup {xs : List V} : notTbl (.tup xs) := fun ps z => by cases z
theorem notTbl_ins {C dx : Addr} {fs : List (Str × V)} : notTbl (.ins C dx fs) := fun ps z => by cases z
section
variable {M : LK} {pn : Addr} {G G' H H' : Hp} {n n' : NS} {σ : L2.St} {δ : List (Option D)}
theorem Rep.hp (R : Rep M pn G n σ δ H) : ∃ kvs, H pn = some (.dK kvs) := by
  obtain ⟨la, ns, a, l, h, _⟩ := R.pen.ob
  exact ⟨_, h⟩
theorem Rep.tr (R : Rep M pn G n σ δ H) {G1 H1 : Hp} (a : Adv pn G H G' H') (b : Adv pn G' H' G1 H1) : Adv pn G H G1 H1 := a.trans b
theorem EnvIs.up (A : Adv pn G H G' H') (E : EnvIs M G σ δ) : EnvIs M G' σ δ where
  len := E.len
  at_ := fun i d e => by
    obtain ⟨v, h1, h2⟩ := E.at_ i d e
    exact ⟨v, h1, Is.up A.ge d v h2⟩
theorem Rep.gnone {a : Addr} (R : Rep M pn G n σ δ H) (h : H a = none) : G a = none := by
  cases e : G a with
  | none => rfl
  | some u => rw [R.ex _ _ e] at h; cases h
theorem Rep.munone {a : Addr} (R : Rep M pn G n σ δ H) (h : H a = none) : n.mu a = none := by
  cases e : n.mu a with
  | none => rfl
  | some o =>
    obtain ⟨u, h1, _⟩ := R.mu a o e
    rw [h] at h1; cases h1
theorem Rep.penne {p : Addr} (R : Rep M pn G n σ δ H) (h : H p = none) : pn ≠ p := by
  obtain ⟨kvs, hk⟩ := R.hp
  exact ne_of_none hk h
theorem PenOk.new {K : Frag} {ka kl : Str} {cs : List Int} {m : Nat} {p : Addr} {o : HO} (P : PenOk K ka kl cs pn m G H) (np : pn ≠ p) : PenOk K ka kl cs pn m G (upd H p o) := by
  obtain ⟨la, ns, a, l, h1, h2⟩ := P.ob
  exact ⟨⟨la, ns, a, l, by rw [upd_ne np]; exact h1, h2⟩, P.fr⟩
theorem PenOk.grow {K : Frag} {ka kl : Str} {cs : List Int} {m : Nat} {p : Addr} {o : HO} (P : PenOk K ka kl cs pn m G H) (np : pn ≠ p) (gp : G p = none) : PenOk K ka kl cs pn m (upd G p o) H := by
  obtain ⟨la, ns, a, l, h1, h2, h3⟩ := P.ob
  exact ⟨⟨la, ns, a, l, h1, by rw [upd_ne (ne_of_none h2 gp)]; exact h2, h3⟩, by rw [upd_ne np]; exact P.fr⟩
/-- a new object is laid, known from now on -/
theorem Rep.lay {p : Addr} {o : HO} (R : Rep M pn G n σ δ H) (h : H p = none) (ho : notTbl o) : Rep M pn (upd G p o) n σ δ (upd H p o) ∧ Adv pn G H (upd G p o) (upd H p o) := by
  have gp := R.gnone h
  have np := R.penne h
  have A : Adv pn G H (upd G p o) (upd H p o) := ⟨Ext.new gp⟩
  refine ⟨⟨fun a u e => ?_, (R.pen.new np).grow np gp, R.tab.ext fun b u e => by rw [upd_ne (ne_of_none e h)]; exact e, fun a u e => ?_, R.pe, fun a u e => ?_, R.env.up A⟩, A⟩
  · by_cases z : a = p
    · subst z; rw [upd_same] at e ⊢; exact e
    · rw [upd_ne z] at e ⊢; exact R.ex _ _ e
  · by_cases z : a = p
    · subst z; rw [upd_same] at e; cases e; exact ho
    · rw [upd_ne z] at e; exact R.nt _ _ e
  · obtain ⟨x, h1, h2, h3, h4⟩ := R.mu a u e
    have z := ne_of_none h1 h
    exact ⟨x, by rw [upd_ne z]; exact h1, h2.up A.ge, by rw [upd_ne z]; exact h3, h4⟩
/-- a new object that may change -/
theorem Rep.mak {p : Addr} {o : HO} {u : MO} (R : Rep M pn G n σ δ H) (h : H p = none) (i : MIs M G o u) : Rep M pn G ⟨n.at_, mup n.mu p (some u)⟩ σ δ (upd H p o) ∧ Adv pn G H G (upd H p o) := by
  have gp := R.gnone h
  have np := R.penne h
  refine ⟨⟨fun a x e => ?_, R.pen.new np, R.tab.ext fun b x e => by rw [upd_ne (ne_of_none e h)]; exact e, R.nt, R.pe, fun a x e => ?_, R.env⟩, ⟨Ext.refl _⟩⟩
  · have : a ≠ p := fun z => by rw [z, gp] at e; cases e
    rw [upd_ne this]; exact R.ex _ _ e
  · by_cases z : a = p
    · subst z
      rw [show (⟨n.at_, mup n.mu a (some u)⟩ : NS).mu a = some u from mup_same] at e
      cases e
      exact ⟨o, upd_same, i, gp, Ne.symm np⟩
    · rw [show (⟨n.at_, mup n.mu p (some u)⟩ : NS).mu a = n.mu a from mup_ne z] at e
      obtain ⟨y, h1, h2, h3, h4⟩ := R.mu a x e
      exact ⟨y, by rw [upd_ne z]; exact h1, h2, h3, h4⟩
theorem tabs_upd {T : List (Addr × Str)} {p : Addr} {o u : HO} (h : LamX.Tabs T H) (hp : H p = some u) (hu : notTbl u) (hc : ∀ c q, u ≠ LamX.CodeO c q) : LamX.Tabs T (upd H p o) := fun q hq => by
  obtain ⟨ps, h1, h2, h3⟩ := h q hq
  refine ⟨ps, by rw [upd_ne (fun z => by rw [z, hp] at h1; cases h1; exact hu _ rfl)]; exact h1, h2, fun pos cv hcv => ?_⟩
  obtain ⟨c, e1, e2⟩ := h3 pos cv hcv
  exact ⟨c, e1, by rw [upd_ne (fun z => by rw [z, hp] at e2; cases e2; exact hc _ _ rfl)]; exact e2⟩
theorem MIs.nc {h : HO} {o : MO} (i : MIs M G h o) (c : Addr) (q : Str) : h ≠ LamX.CodeO c q := fun z => by
  subst z
  unfold LamX.CodeO at i
  cases o <;> simp only [MIs] at i
/-- .. is changed -/
theorem Rep.chg {p : Addr} {o : HO} {u u0 : MO} (R : Rep M pn G n σ δ H) (h : n.mu p = some u0) (i : MIs M G o u) : Rep M pn G ⟨n.at_, mup n.mu p (some u)⟩ σ δ (upd H p o) := by
  obtain ⟨x0, g1, g2, g3, g4⟩ := R.mu p u0 h
  refine ⟨fun a x e => ?_, R.pen.new (Ne.symm g4), tabs_upd R.tab g1 g2.nt g2.nc, R.nt, R.pe, fun a x e => ?_, R.env⟩
  · have : a ≠ p := fun z => by rw [z, g3] at e; cases e
    rw [upd_ne this]; exact R.ex _ _ e
  · by_cases z : a = p
    · subst z
      rw [show (⟨n.at_, mup n.mu a (some u)⟩ : NS).mu a = some u from mup_same] at e
      cases e
      exact ⟨o, upd_same, i, g3, g4⟩
    · rw [show (⟨n.at_, mup n.mu p (some u)⟩ : NS).mu a = n.mu a from mup_ne z] at e
      obtain ⟨y, h1, h2, h3, h4⟩ := R.mu a x e
      exact ⟨y, by rw [upd_ne z]; exact h1, h2, h3, h4⟩
/-- .. becomes known: it changes no more -/
theorem Rep.frz {p : Addr} {u : MO} (R : Rep M pn G n σ δ H) (h : n.mu p = some u) : ∃ o, H p = some o ∧ MIs M G o u ∧ Rep M pn (upd G p o) ⟨n.at_, mup n.mu p none⟩ σ δ H ∧ Adv pn G H (upd G p o) H ∧ G p = none := by
  obtain ⟨o, g1, g2, g3, g4⟩ := R.mu p u h
  have A : Adv pn G H (upd G p o) H := ⟨Ext.new g3⟩
  refine ⟨o, g1, g2, ⟨fun a x e => ?_, R.pen.grow (Ne.symm g4) g3, R.tab, fun a x e => ?_, R.pe, fun a x e => ?_, R.env.up A⟩, A, g3⟩
  · by_cases z : a = p
    · subst z; rw [upd_same] at e; cases e; exact g1
    · rw [upd_ne z] at e; exact R.ex _ _ e
  · by_cases z : a = p
    · subst z; rw [upd_same] at e; cases e; exact g2.nt
    · rw [upd_ne z] at e; exact R.nt _ _ e
  · have z : a ≠ p := fun z => by
      subst z
      rw [show (⟨n.at_, mup n.mu a none⟩ : NS).mu a = none from mup_same] at e
      cases e
    rw [show (⟨n.at_, mup n.mu p none⟩ : NS).mu a = n.mu a from mup_ne z] at e
    obtain ⟨y, h1, h2, h3, h4⟩ := R.mu a x e
    exact ⟨y, h1, h2.up A.ge, by rw [upd_ne z]; exact h3, h4⟩
/-- less is told: more draws, fewer objects -/
def NS.Sub (n' n : NS) : Prop := n.at_ ≤ n'.at_ ∧ ∀ a o, n'.mu a = some o → n.mu a = some o
theorem NS.Sub.refl (n : NS) : NS.Sub n n := ⟨Nat.le_refl _, fun _ _ h => h⟩
theorem Rep.sub (R : Rep M pn G n σ δ H) (h : NS.Sub n' n) : Rep M pn G n' σ δ H := by
  obtain ⟨la, ns, a, l, h1, h2, h3, h4, h5, h6⟩ := R.pen.ob
  have := h.1
  exact ⟨R.ex, ⟨⟨la, ns, a, l, h1, h2, h3, h4, by omega, h6⟩, R.pen.fr⟩, R.tab, R.nt, R.pe, fun a o e => R.mu a o (h.2 a o e), R.env⟩
theorem getO {α : Type} {l : List (Option α)} {i : Nat} {x : Option α} {y : Option α} (h : (l.set i x)[i]? = some y) : y = x := by
  by_cases hi : i < l.length
  · rw [List.getElem?_set_self hi] at h
    exact (Option.some.inj h).symm
  · rw [List.getElem?_eq_none (by simp; omega)] at h
    cases h
/-- a slot is stored -/
theorem EnvIs.set {i : Nat} {v : V} {d : D} (E : EnvIs M G σ δ) (h : Is M G v d) : EnvIs M G (σ.set i (some v)) (δ.set i (some d)) where
  len := by simp [E.len]
  at_ := fun j x e => by
    by_cases hj : i = j
    · subst hj
      have e' := getO e
      cases e'
      have hi : i < σ.length := by
        rw [E.len]
        by_cases q : i < δ.length
        · exact q
        · rw [List.getElem?_eq_none (by simp; omega)] at e
          cases e
      exact ⟨v, List.getElem?_set_self hi, h⟩
    · rw [List.getElem?_set_ne hj] at e ⊢
      exact E.at_ j x e
theorem EnvIs.get {i : Nat} {d : D} (E : EnvIs M G σ δ) (h : δ[i]? = some (some d)) : ∃ v, σ[i]? = some (some v) ∧ Is M G v d := E.at_ i d h
end
/-! ### the readings -/
abbrev DEnv := List (Option D)
/-- an exception: its class, its fields -/
abbrev DX := List (Option D) → Addr → List Str → List D → NS → Prop
abbrev DTE := DEnv → NS → (D → NS → Prop) → DX → Prop
abbrev DTT := DEnv → NS → (Bool → NS → Prop) → DX → Prop
abbrev DTA := DEnv → NS → (List D → NS → Prop) → DX → Prop
structure DEnds where
  nx : DEnv → NS → Prop
  rt : D → NS → Prop
  bk : DEnv → NS → Prop := fun _ _ => False
  ct : DEnv → NS → Prop := fun _ _ => False
  ex : DX := fun _ _ _ _ _ => False
abbrev DTS := DEnds → DEnv → NS → Prop
/-- the dict at a of an exception -/
def XIs (M : LK) (G : Hp) (a : Addr) (ns : List Str) (ds : List D) : Prop := ∃ fs, G a = some (.xd fs) ∧ fs.map (·.1) = ns ∧ IsL M G (fs.map (·.2)) ds
def XEnd (M : LK) (W : WX) (pn : Addr) (G : Hp) (σ : L2.St) (δ : DEnv) (H : Hp) (e : DX) : Prop :=
  ∀ G' C a ns ds n' H', Adv pn G H G' H' → Rep M pn G' n' σ δ H' → XIs M G' a ns ds → e δ C ns ds n' → W (.ref C) (some a) σ H'
def liftE (M : LK) (W : WX) (f : DTE) : TE := fun σ H Q => ∃ pn G n δ q e, Rep M pn G n σ δ H ∧ f δ n q e ∧
  (∀ G' v d n' H', Adv pn G H G' H' → Rep M pn G' n' σ δ H' → Is M G' v d → q d n' → Q v H') ∧ XEnd M W pn G σ δ H e
def liftT (M : LK) (W : WX) (f : DTT) : TT := fun σ H Q => ∃ pn G n δ q e, Rep M pn G n σ δ H ∧ f δ n q e ∧
  (∀ G' b n' H', Adv pn G H G' H' → Rep M pn G' n' σ δ H' → q b n' → Q b H') ∧ XEnd M W pn G σ δ H e
def liftA (M : LK) (W : WX) (f : DTA) : TA := fun σ H Q => ∃ pn G n δ q e, Rep M pn G n σ δ H ∧ f δ n q e ∧
  (∀ G' vs ds n' H', Adv pn G H G' H' → Rep M pn G' n' σ δ H' → IsL M G' vs ds → q ds n' → Q vs H') ∧ XEnd M W pn G σ δ H e
structure SEnd (M : LK) (W : WX) (pn : Addr) (G : Hp) (H : Hp) (D₀ : Ends) (k : DEnds) : Prop where
  nx : ∀ G' σ' δ' n' H', Adv pn G H G' H' → Rep M pn G' n' σ' δ' H' → k.nx δ' n' → D₀.nx σ' H'
  rt : ∀ G' σ' δ' v d n' H', Adv pn G H G' H' → Rep M pn G' n' σ' δ' H' → Is M G' v d → k.rt d n' → D₀.rt v H'
  bk : ∀ G' σ' δ' n' H', Adv pn G H G' H' → Rep M pn G' n' σ' δ' H' → k.bk δ' n' → D₀.bk σ' H'
  ct : ∀ G' σ' δ' n' H', Adv pn G H G' H' → Rep M pn G' n' σ' δ' H' → k.ct δ' n' → D₀.ct σ' H'
  ex : ∀ G' σ' δ' C a ns ds n' H', Adv pn G H G' H' → Rep M pn G' n' σ' δ' H' → XIs M G' a ns ds → k.ex δ' C ns ds n' → W (.ref C) (some a) σ' H'
def liftS (M : LK) (W : WX) (f : DTS) : TS := fun D₀ σ H => ∃ pn G n δ k, Rep M pn G n σ δ H ∧ f k δ n ∧ SEnd M W pn G H D₀ k
/-- weakening -/
theorem PEw {X : Cx} {e : Expr} {t t' : TE} (h : PE X e t) (w : ∀ σ H Q, t' σ H Q → t σ H Q) : PE X e t' := ⟨fun pins s σ H Q I q => h.run pins s σ H Q I (w _ _ _ q)⟩
theorem PTw {X : Cx} {e : Expr} {t t' : TT} (h : PT X e t) (w : ∀ σ H Q, t' σ H Q → t σ H Q) : PT X e t' := ⟨fun pins s σ H Q I q => h.run pins s σ H Q I (w _ _ _ q)⟩
theorem PAw {X : Cx} {e : List Expr} {t t' : TA} (h : PA X e t) (w : ∀ σ H Q, t' σ H Q → t σ H Q) : PA X e t' := ⟨fun pos pins s σ H Q I q => h.run pos pins s σ H Q I (w _ _ _ q)⟩
theorem PSw {X : Cx} {e : Stmt} {t t' : TS} (h : PS X e t) (w : ∀ D σ H, t' D σ H → t D σ H) : PS X e t' := ⟨fun pins s σ H D I q => h.run pins s σ H D I (w _ _ _ q)⟩
theorem PSsw {X : Cx} {e : List Stmt} {t t' : TS} (h : PSs X e t) (w : ∀ D σ H, t' D σ H → t D σ H) : PSs X e t' := ⟨fun pins s σ H D I q => h.run pins s σ H D I (w _ _ _ q)⟩
theorem XEnd.on {M : LK} {W : WX} {pn : Addr} {G G1 : Hp} {σ : L2.St} {δ : DEnv} {n : NS} {H H1 : Hp} {e : DX} (x : XEnd M W pn G σ δ H e) (R : Rep M pn G n σ δ H) (A : Adv pn G H G1 H1) : XEnd M W pn G1 σ δ H1 e :=
  fun G' C a ns ds n' H' A' R' h q => x G' C a ns ds n' H' (R.tr A A') R' h q
end DL

set_option Elab.async false
set_option linter.all false
set_option maxRecDepth 100000
set_option maxHeartbeats 4000000
set_option autoImplicit false
/-! The data layer: expressions. -/
namespace DL
open PySem PySem.Spec PyProof.Rows L2
/-! ### arguments that are no stars -/
def noStar : Expr → Bool
  | .Starred .. => false
  | _ => true
theorem starEach_cons {e : Expr} {es : List Expr} {env : Env} (h : noStar e = true) : starEach (e :: es) env = (false, eval e env) :: starEach es env := by
  cases e <;> first | rfl | cases h
/-! ### names and constants -/
def dGet (o : Option (Option D)) (q : D → Prop) : Prop := match o with
  | some (some d) => q d
  | _ => False
theorem dGet_some {o : Option (Option D)} {q : D → Prop} (h : dGet o q) : ∃ d, o = some (some d) ∧ q d := by
  match o, h with
  | some (some d), h => exact ⟨d, rfl, h⟩
def dVar (i : Nat) : DTE := fun δ n q _ => dGet δ[i]? fun d => q d n
def dC (d : D) : DTE := fun _ n q _ => q d n
section
variable {X : Cx} {M : LK} {W : WX}
theorem Rep.slot {pn : Addr} {G H : Hp} {n : NS} {σ : L2.St} {δ : DEnv} {i : Nat} {q : D → Prop} (R : Rep M pn G n σ δ H) (h : dGet δ[i]? q) : ∃ v d, σ[i]? = some (some v) ∧ Is M G v d ∧ q d := by
  obtain ⟨d, e, hq⟩ := dGet_some h
  obtain ⟨v, h1, h2⟩ := R.env.get e
  exact ⟨v, d, h1, h2, hq⟩
theorem dp_var {e : Expr} {i : Nat} (h : PE X e (tVar i)) : PE X e (liftE M W (dVar i)) := PEw h fun σ H Q ⟨pn, G, n, δ, q, ex, R, hf, hQ, _⟩ => by
  obtain ⟨v, d, h1, h2, hq⟩ := R.slot hf
  exact ⟨v, h1, hQ G v d n H Adv.refl R h2 hq⟩
theorem dp_c {e : Expr} {v : V} {d : D} (h : PE X e (tC v)) (hi : ∀ G, Is M G v d) : PE X e (liftE M W (dC d)) := PEw h fun σ H Q ⟨pn, G, n, δ, q, ex, R, hf, hQ, _⟩ => hQ G v d n H Adv.refl R (hi G) hf
theorem dp_int {i : Int} {j : Nat} {pos : Pos} : PE X (.Constant (.int i) j pos) (liftE M W (dC (.int i))) := dp_c pe_int fun _ => by simp only [Is]
theorem dp_bl {b : Bool} {j : Nat} {pos : Pos} : PE X (.Constant (.bool b) j pos) (liftE M W (dC (.bl b))) := dp_c pe_bl fun _ => by simp only [Is]
theorem dp_non {j : Nat} {pos : Pos} : PE X (.Constant .none j pos) (liftE M W (dC .non)) := dp_c pe_non fun _ => by simp only [Is]
theorem dp_str {x : Str} (l : List Nat) {j : Nat} {pos : Pos} (h : x = S l := by decide +kernel) : PE X (.Constant (.str x) j pos) (liftE M W (dC (.str l))) := dp_c pe_str fun _ => by simp only [Is]; rw [h]
/-! ### binary operations -/
def DR2 (M : LK) (r : R2) (g : D → D → NS → (D → NS → Prop) → Prop) : Prop := ∀ (pn : Addr) (G : Hp) (n : NS) (σ : L2.St) (δ : DEnv) (H : Hp) (v u : V) (x y : D) (q : D → NS → Prop) (Q : VK), Rep M pn G n σ δ H → Is M G v x → Is M G u y → g x y n q →
  (∀ G' w d n' H', Adv pn G H G' H' → Rep M pn G' n' σ δ H' → Is M G' w d → q d n' → Q w H') → r v u H Q
def dOp (g : D → D → NS → (D → NS → Prop) → Prop) (fa fb : DTE) : DTE := fun δ n q e => fa δ n (fun x n1 => fb δ n1 (fun y n2 => g x y n2 q) e) e
theorem liftE_bin {r : R2} {g : D → D → NS → (D → NS → Prop) → Prop} {fa fb : DTE} (hr : DR2 M r g) (σ : L2.St) (H : Hp) (Q : VK) (h : liftE M W (dOp g fa fb) σ H Q) : tOp r (liftE M W fa) (liftE M W fb) σ H Q := by
  obtain ⟨pn, G, n, δ, q, e, R, hf, hQ, hX⟩ := h
  refine ⟨pn, G, n, δ, _, e, R, hf, fun G1 v x n1 H1 A1 R1 i1 h1 => ?_, hX⟩
  refine ⟨pn, G1, n1, δ, _, e, R1, h1, fun G2 u y n2 H2 A2 R2 i2 h2 => ?_, hX.on R A1⟩
  exact hr pn G2 n2 σ δ H2 v u x y q Q R2 (Is.up A2.ge x v i1) i2 h2 fun G3 w d n3 H3 A3 R3 i3 h3 => hQ G3 w d n3 H3 (R.tr (R.tr A1 A2) A3) R3 i3 h3
theorem dp_op {a b : Expr} {op : Operator} {pos : Pos} {r : R2} {g : D → D → NS → (D → NS → Prop) → Prop} {fa fb : DTE} (ho : OpR X (binaryOp op) r) (hr : DR2 M r g) (ha : PE X a (liftE M W fa)) (hb : PE X b (liftE M W fb)) : PE X (.BinOp a op b pos) (liftE M W (dOp g fa fb)) :=
  PEw (pe_op ho ha hb) (liftE_bin hr)
theorem dp_cmp {a b : Expr} {op : CmpOp} {pos : Pos} {r : R2} {g : D → D → NS → (D → NS → Prop) → Prop} {fa fb : DTE} (ho : OpR X (compareOp op) r) (hr : DR2 M r g) (ha : PE X a (liftE M W fa)) (hb : PE X b (liftE M W fb)) (hm : behindInMarks op b = false) : PE X (.Compare a [op] [b] pos) (liftE M W (dOp g fa fb)) :=
  PEw (pe_cmpR ho ha hb hm) (liftE_bin hr)
/-- a test: the value is a truth -/
def dTest (f : DTE) : DTT := fun δ n q e => f δ n (fun d n1 => match d with | .bl b => q b n1 | _ => False) e
theorem liftT_test {f : DTE} {t : TE} (ht : ∀ σ H Q, liftE M W f σ H Q → t σ H Q) (σ : L2.St) (H : Hp) (Q : Bool → Hp → Prop) (h : liftT M W (dTest f) σ H Q) : t σ H fun x H' => ∃ k, x = .bl k ∧ Q k H' := by
  obtain ⟨pn, G, n, δ, q, e, R, hf, hQ, hX⟩ := h
  refine ht _ _ _ ⟨pn, G, n, δ, _, e, R, hf, fun G1 v d n1 H1 A1 R1 i1 h1 => ?_, hX⟩
  cases d with
  | bl b =>
    simp only [Is] at i1
    exact ⟨b, i1, hQ G1 b n1 H1 A1 R1 h1⟩
  | _ => exact h1.elim
theorem dt_cmp {a b : Expr} {op : CmpOp} {pos : Pos} {r : R2} {g : D → D → NS → (D → NS → Prop) → Prop} {fa fb : DTE} (ho : OpR X (compareOp op) r) (hr : DR2 M r g) (ha : PE X a (liftE M W fa)) (hb : PE X b (liftE M W fb)) (hm : behindInMarks op b = false) : PT X (.Compare a [op] [b] pos) (liftT M W (dTest (dOp g fa fb))) :=
  PTw (pt_cmpR ho ha hb hm) (liftT_test (liftE_bin hr))
theorem dt_val {e : Expr} {f : DTE} (h : PE X e (liftE M W f)) (he : ∀ whole, isTrue e X.env whole = (do let v ← whole; standAt e.pos; holding [v] (truthy v)) := by intro _; rfl) : PT X e (liftT M W (dTest f)) :=
  PTw (pt_val h he) (liftT_test fun _ _ _ h => h)
/-! ### chains -/
def dChain (g g' : D → D → NS → (D → NS → Prop) → Prop) (fa fb fc : DTE) : DTE := fun δ n q e => fa δ n (fun x n1 => fb δ n1 (fun y n2 => g x y n2 fun z n3 => match z with
  | .bl true => fc δ n3 (fun w n4 => g' y w n4 q) e
  | .bl false => q (.bl false) n3
  | _ => False) e) e
theorem liftE_chain {r r' : R2} {g g' : D → D → NS → (D → NS → Prop) → Prop} {fa fb fc : DTE} (hr : DR2 M r g) (hr' : DR2 M r' g') (σ : L2.St) (H : Hp) (Q : VK) (h : liftE M W (dChain g g' fa fb fc) σ H Q) :
    tChain r r' (liftE M W fa) (liftE M W fb) (liftE M W fc) σ H Q := by
  obtain ⟨pn, G, n, δ, q, e, R, hf, hQ, hX⟩ := h
  refine ⟨pn, G, n, δ, _, e, R, hf, fun G1 v x n1 H1 A1 R1 i1 h1 => ?_, hX⟩
  refine ⟨pn, G1, n1, δ, _, e, R1, h1, fun G2 u y n2 H2 A2 R2 i2 h2 => ?_, hX.on R A1⟩
  have A12 := R.tr A1 A2
  refine hr pn G2 n2 σ δ H2 v u x y _ _ R2 (Is.up A2.ge x v i1) i2 h2 fun G3 w d n3 H3 A3 R3 i3 h3 => ?_
  cases d with
  | bl b =>
    simp only [Is] at i3
    refine ⟨b, i3, ?_⟩
    cases b with
    | true =>
      refine iteT ?_
      refine ⟨pn, G3, n3, δ, _, e, R3, h3, fun G4 w' d' n4 H4 A4 R4 i4 h4 => ?_, hX.on R (R.tr A12 A3)⟩
      exact hr' pn G4 n4 σ δ H4 u w' y d' q Q R4 (Is.up (A3.ge.trans A4.ge) y u i2) i4 h4 fun G5 w5 d5 n5 H5 A5 R5 i5 h5 => hQ G5 w5 d5 n5 H5 (R.tr (R.tr (R.tr A12 A3) A4) A5) R5 i5 h5
    | false => exact iteF (hQ G3 (.bl false) (.bl false) n3 H3 (R.tr A12 A3) R3 (by simp only [Is]) h3)
  | _ => exact h3.elim
theorem dp_chain {a b c : Expr} {op op' : CmpOp} {pos : Pos} {r r' : R2} {g g' : D → D → NS → (D → NS → Prop) → Prop} {fa fb fc : DTE} (ho : OpR X (compareOp op) r) (hr : DR2 M r g) (ho' : OpR X (compareOp op') r') (hr' : DR2 M r' g')
    (ha : PE X a (liftE M W fa)) (hb : PE X b (liftE M W fb)) (hc : PE X c (liftE M W fc)) (hm : lastMarks [op, op'] [b, c] = false := by with_unfolding_all rfl) : PE X (.Compare a [op, op'] [b, c] pos) (liftE M W (dChain g g' fa fb fc)) :=
  PEw (pe_chain ho ho' ha hb hc hm) (liftE_chain hr hr')
theorem dt_chain {a b c : Expr} {op op' : CmpOp} {pos : Pos} {r r' : R2} {g g' : D → D → NS → (D → NS → Prop) → Prop} {fa fb fc : DTE} (ho : OpR X (compareOp op) r) (hr : DR2 M r g) (ho' : OpR X (compareOp op') r') (hr' : DR2 M r' g')
    (ha : PE X a (liftE M W fa)) (hb : PE X b (liftE M W fb)) (hc : PE X c (liftE M W fc)) (hm : lastMarks [op, op'] [b, c] = false := by with_unfolding_all rfl) : PT X (.Compare a [op, op'] [b, c] pos) (liftT M W (dTest (dChain g g' fa fb fc))) :=
  PTw (pt_chain ho ho' ha hb hc hm) (liftT_test (liftE_chain hr hr'))
/-! ### and, or, not -/
def dAnd (f g : DTT) : DTT := fun δ n q e => f δ n (fun b n1 => match b with | true => g δ n1 q e | false => q false n1) e
def dOr (f g : DTT) : DTT := fun δ n q e => f δ n (fun b n1 => match b with | true => q true n1 | false => g δ n1 q e) e
def dNot (f : DTT) : DTT := fun δ n q e => f δ n (fun b n1 => q (!b) n1) e
theorem PWw {X : Cx} {e : Expr} {t t' : TT} (h : PW X e t) (w : ∀ σ H Q, t' σ H Q → t σ H Q) : PW X e t' := ⟨fun wh pins s σ H Q I q => h.run wh pins s σ H Q I (w _ _ _ q)⟩
theorem dw_and1 {a : Expr} {pos : Pos} {f : DTT} (ha : PT X a (liftT M W f)) : PW X (.BoolOp .And [a] pos) (liftT M W f) := pw_and1 ha
theorem dw_or1 {a : Expr} {pos : Pos} {f : DTT} (ha : PT X a (liftT M W f)) : PW X (.BoolOp .Or [a] pos) (liftT M W f) := pw_or1 ha
theorem dw_and {a b : Expr} {rest : List Expr} {pos : Pos} {f g : DTT} (ha : PT X a (liftT M W f)) (hb : PW X (.BoolOp .And (b :: rest) pos) (liftT M W g)) : PW X (.BoolOp .And (a :: b :: rest) pos) (liftT M W (dAnd f g)) :=
  PWw (pw_and ha hb) fun σ H Q ⟨pn, G, n, δ, q, e, R, hf, hQ, hX⟩ => by
    refine ⟨pn, G, n, δ, _, e, R, hf, fun G1 b n1 H1 A1 R1 h1 => ?_, hX⟩
    cases b with
    | true => exact iteT ⟨pn, G1, n1, δ, q, e, R1, h1, fun G2 b n2 H2 A2 R2 h2 => hQ G2 b n2 H2 (R.tr A1 A2) R2 h2, hX.on R A1⟩
    | false => exact iteF (hQ G1 false n1 H1 A1 R1 h1)
theorem dw_or {a b : Expr} {rest : List Expr} {pos : Pos} {f g : DTT} (ha : PT X a (liftT M W f)) (hb : PW X (.BoolOp .Or (b :: rest) pos) (liftT M W g)) : PW X (.BoolOp .Or (a :: b :: rest) pos) (liftT M W (dOr f g)) :=
  PWw (pw_or ha hb) fun σ H Q ⟨pn, G, n, δ, q, e, R, hf, hQ, hX⟩ => by
    refine ⟨pn, G, n, δ, _, e, R, hf, fun G1 b n1 H1 A1 R1 h1 => ?_, hX⟩
    cases b with
    | true => exact iteT (hQ G1 true n1 H1 A1 R1 h1)
    | false => exact iteF ⟨pn, G1, n1, δ, q, e, R1, h1, fun G2 b n2 H2 A2 R2 h2 => hQ G2 b n2 H2 (R.tr A1 A2) R2 h2, hX.on R A1⟩
theorem dt_w {e : Expr} {f : DTT} (h : PW X e (liftT M W f)) : PT X e (liftT M W f) := h.pt
theorem dt_not {a : Expr} {pos : Pos} {f : DTT} (ha : PT X a (liftT M W f)) : PT X (.UnaryOp .Not a pos) (liftT M W (dNot f)) :=
  PTw (pt_not ha) fun σ H Q ⟨pn, G, n, δ, q, e, R, hf, hQ, hX⟩ => ⟨pn, G, n, δ, _, e, R, hf, fun G1 b n1 H1 A1 R1 h1 => hQ G1 (!b) n1 H1 A1 R1 h1, hX⟩
/-- .. as values, truths -/
def dAndV (f g : DTE) : DTE := fun δ n q e => f δ n (fun x n1 => match x with | .bl true => g δ n1 q e | .bl false => q (.bl false) n1 | _ => False) e
def dOrV (f g : DTE) : DTE := fun δ n q e => f δ n (fun x n1 => match x with | .bl true => q (.bl true) n1 | .bl false => g δ n1 q e | _ => False) e
def dNotV (f : DTE) : DTE := fun δ n q e => f δ n (fun x n1 => match x with | .bl b => q (.bl (!b)) n1 | _ => False) e
theorem dp_one {a : Expr} {op : BoolOp} {pos : Pos} {f : DTE} (ha : PE X a (liftE M W f)) : PE X (.BoolOp op [a] pos) (liftE M W f) := pe_one ha
theorem dp_and {a b : Expr} {rest : List Expr} {pos : Pos} {f g : DTE} (ha : PE X a (liftE M W f)) (hb : PE X (.BoolOp .And (b :: rest) pos) (liftE M W g)) : PE X (.BoolOp .And (a :: b :: rest) pos) (liftE M W (dAndV f g)) :=
  PEw (pe_and ha hb) fun σ H Q ⟨pn, G, n, δ, q, e, R, hf, hQ, hX⟩ => by
    refine ⟨pn, G, n, δ, _, e, R, hf, fun G1 v d n1 H1 A1 R1 i1 h1 => ?_, hX⟩
    cases d with
    | bl b =>
      simp only [Is] at i1
      refine ⟨b, i1, ?_⟩
      cases b with
      | true => exact iteT ⟨pn, G1, n1, δ, q, e, R1, h1, fun G2 v d n2 H2 A2 R2 i2 h2 => hQ G2 v d n2 H2 (R.tr A1 A2) R2 i2 h2, hX.on R A1⟩
      | false => exact iteF (hQ G1 (.bl false) (.bl false) n1 H1 A1 R1 (by simp only [Is]) h1)
    | _ => exact h1.elim
theorem dp_or {a b : Expr} {rest : List Expr} {pos : Pos} {f g : DTE} (ha : PE X a (liftE M W f)) (hb : PE X (.BoolOp .Or (b :: rest) pos) (liftE M W g)) : PE X (.BoolOp .Or (a :: b :: rest) pos) (liftE M W (dOrV f g)) :=
  PEw (pe_or ha hb) fun σ H Q ⟨pn, G, n, δ, q, e, R, hf, hQ, hX⟩ => by
    refine ⟨pn, G, n, δ, _, e, R, hf, fun G1 v d n1 H1 A1 R1 i1 h1 => ?_, hX⟩
    cases d with
    | bl b =>
      simp only [Is] at i1
      refine ⟨b, i1, ?_⟩
      cases b with
      | true => exact iteT (hQ G1 (.bl true) (.bl true) n1 H1 A1 R1 (by simp only [Is]) h1)
      | false => exact iteF ⟨pn, G1, n1, δ, q, e, R1, h1, fun G2 v d n2 H2 A2 R2 i2 h2 => hQ G2 v d n2 H2 (R.tr A1 A2) R2 i2 h2, hX.on R A1⟩
    | _ => exact h1.elim
theorem dp_not {a : Expr} {pos : Pos} {f : DTE} (ha : PE X a (liftE M W f)) : PE X (.UnaryOp .Not a pos) (liftE M W (dNotV f)) :=
  PEw (pe_not ha) fun σ H Q ⟨pn, G, n, δ, q, e, R, hf, hQ, hX⟩ => by
    refine ⟨pn, G, n, δ, _, e, R, hf, fun G1 v d n1 H1 A1 R1 i1 h1 => ?_, hX⟩
    cases d with
    | bl b =>
      simp only [Is] at i1
      exact ⟨b, i1, hQ G1 (.bl (!b)) (.bl (!b)) n1 H1 A1 R1 (by simp only [Is]) h1⟩
    | _ => exact h1.elim
def dIf (c : DTT) (f g : DTE) : DTE := fun δ n q e => c δ n (fun b n1 => match b with | true => f δ n1 q e | false => g δ n1 q e) e
theorem dp_if {c a b : Expr} {pos : Pos} {tc : DTT} {f g : DTE} (hc : PT X c (liftT M W tc)) (ha : PE X a (liftE M W f)) (hb : PE X b (liftE M W g)) : PE X (.IfExp c a b pos) (liftE M W (dIf tc f g)) :=
  PEw (pe_ifExp hc ha hb) fun σ H Q ⟨pn, G, n, δ, q, e, R, hf, hQ, hX⟩ => by
    refine ⟨pn, G, n, δ, _, e, R, hf, fun G1 b n1 H1 A1 R1 h1 => ?_, hX⟩
    cases b with
    | true => exact iteT ⟨pn, G1, n1, δ, q, e, R1, h1, fun G2 v d n2 H2 A2 R2 i2 h2 => hQ G2 v d n2 H2 (R.tr A1 A2) R2 i2 h2, hX.on R A1⟩
    | false => exact iteF ⟨pn, G1, n1, δ, q, e, R1, h1, fun G2 v d n2 H2 A2 R2 i2 h2 => hQ G2 v d n2 H2 (R.tr A1 A2) R2 i2 h2, hX.on R A1⟩
/-! ### arguments -/
def dNil : DTA := fun _ n q _ => q [] n
def dCons (f : DTE) (g : DTA) : DTA := fun δ n q e => f δ n (fun x n1 => g δ n1 (fun xs n2 => q (x :: xs) n2) e) e
theorem da_nil : PA X [] (liftA M W dNil) := PAw pa_nil fun σ H Q ⟨pn, G, n, δ, q, e, R, hf, hQ, hX⟩ => hQ G [] [] n H Adv.refl R (by simp only [IsL]) hf
theorem da_cons {e : Expr} {es : List Expr} {f : DTE} {g : DTA} (ha : PE X e (liftE M W f)) (hr : PA X es (liftA M W g)) (hs : starEach (e :: es) X.env = (false, eval e X.env) :: starEach es X.env := by exact starEach_cons rfl) : PA X (e :: es) (liftA M W (dCons f g)) :=
  PAw (pa_cons ha hr hs) fun σ H Q ⟨pn, G, n, δ, q, e, R, hf, hQ, hX⟩ => by
    refine ⟨pn, G, n, δ, _, e, R, hf, fun G1 v d n1 H1 A1 R1 i1 h1 => ?_, hX⟩
    refine ⟨pn, G1, n1, δ, _, e, R1, h1, fun G2 vs ds n2 H2 A2 R2 i2 h2 => ?_, hX.on R A1⟩
    exact hQ G2 (v :: vs) (d :: ds) n2 H2 (R.tr A1 A2) R2 (by simp only [IsL]; exact ⟨Is.up A2.ge d v i1, i2⟩) h2
/-- a tuple, a list of written items -/
def dTup (f : DTA) : DTE := fun δ n q e => f δ n (fun xs n1 => xs.length ≤ 100000 ∧ q (.tup xs) n1) e
def dLst (f : DTA) : DTE := fun δ n q e => f δ n (fun xs n1 => xs.length ≤ 100000 ∧ q (.lst xs) n1) e
theorem le_line {n : Nat} (h : n ≤ 100000) : n ≤ sizeLine := Nat.le_trans h (by decide)
theorem dp_tup {es : List Expr} {k : Nat} {pos : Pos} {f : DTA} (h : PA X es (liftA M W f)) (pe : ∀ {t : TA}, PA X es t → PE X (.Tuple es k pos) (tTup t) := by intro _ h; exact pe_tup h) : PE X (.Tuple es k pos) (liftE M W (dTup f)) :=
  PEw (pe h) fun σ H Q ⟨pn, G, n, δ, q, e, R, hf, hQ, hX⟩ => by
    refine ⟨pn, G, n, δ, _, e, R, hf, fun G1 vs ds n1 H1 A1 R1 i1 h1 => ?_, hX⟩
    refine ⟨by rw [i1.length]; exact le_line h1.1, fun p hp => ?_⟩
    obtain ⟨R2, A2⟩ := R1.lay (o := .tup vs) hp notTbl_tup
    exact hQ _ (.ref p) (.tup ds) n1 _ (R.tr A1 A2) R2 (by simp only [Is]; exact ⟨p, vs, rfl, SqT.of upd_same, IsL.up A2.ge ds vs i1⟩) h1.2
theorem dp_lst {es : List Expr} {pos : Pos} {f : DTA} (h : PA X es (liftA M W f)) (pe : ∀ {t : TA}, PA X es t → PE X (.List es pos) (tLst t) := by intro _ h; exact pe_lst h) : PE X (.List es pos) (liftE M W (dLst f)) :=
  PEw (pe h) fun σ H Q ⟨pn, G, n, δ, q, e, R, hf, hQ, hX⟩ => by
    refine ⟨pn, G, n, δ, _, e, R, hf, fun G1 vs ds n1 H1 A1 R1 i1 h1 => ?_, hX⟩
    refine ⟨by rw [i1.length]; exact le_line h1.1, fun p hp => ?_⟩
    obtain ⟨R2, A2⟩ := R1.lay (o := .lst vs) hp notTbl_lst
    exact hQ _ (.ref p) (.lst ds) n1 _ (R.tr A1 A2) R2 (by simp only [Is]; exact ⟨p, vs, rfl, upd_same, IsL.up A2.ge ds vs i1⟩) h1.2
/-- .. a list that may change -/
def dLstM (f : DTA) : DTE := fun δ n q e => f δ n (fun xs n1 => xs.length ≤ 100000 ∧ ∀ p, n1.mu p = none → q (.ref p) ⟨n1.at_, mup n1.mu p (some (.lst xs))⟩) e
theorem dp_lstM {es : List Expr} {pos : Pos} {f : DTA} (h : PA X es (liftA M W f)) (pe : ∀ {t : TA}, PA X es t → PE X (.List es pos) (tLst t) := by intro _ h; exact pe_lst h) : PE X (.List es pos) (liftE M W (dLstM f)) :=
  PEw (pe h) fun σ H Q ⟨pn, G, n, δ, q, e, R, hf, hQ, hX⟩ => by
    refine ⟨pn, G, n, δ, _, e, R, hf, fun G1 vs ds n1 H1 A1 R1 i1 h1 => ?_, hX⟩
    refine ⟨by rw [i1.length]; exact le_line h1.1, fun p hp => ?_⟩
    obtain ⟨R2, A2⟩ := R1.mak (o := .lst vs) (u := .lst ds) hp i1
    exact hQ _ (.ref p) (.ref p) _ _ (R.tr A1 A2) R2 (by simp only [Is]) (h1.2 p (R1.munone hp))
/-- the tree of an object that changes no more -/
def MO.tree : MO → Option D
  | .lst xs => some (.lst xs)
  | .ins C _ ns xs => some (.ins C ns xs)
  | .dic _ _ => none
  | .rng _ _ => none
/-- from here on it changes no more -/
def dFrz (f : DTE) : DTE := fun δ n q e => f δ n (fun d n1 => ∃ a o t, d = .ref a ∧ n1.mu a = some o ∧ o.tree = some t ∧ q t ⟨n1.at_, mup n1.mu a none⟩) e
theorem frz_is {pn a : Addr} {G H : Hp} {n : NS} {σ : L2.St} {δ : DEnv} {o : MO} {t : D} (R : Rep M pn G n σ δ H) (h : n.mu a = some o) (ht : o.tree = some t) : ∃ G1, Rep M pn G1 ⟨n.at_, mup n.mu a none⟩ σ δ H ∧ Adv pn G H G1 H ∧ Is M G1 (.ref a) t := by
  obtain ⟨u, h1, h2, R1, A1, g0⟩ := R.frz h
  refine ⟨_, R1, A1, ?_⟩
  cases o with
  | lst xs =>
    cases ht
    cases u <;> simp only [MIs] at h2
    simp only [Is]
    exact ⟨a, _, rfl, upd_same, IsL.up A1.ge _ _ h2⟩
  | ins C dx ns xs =>
    cases ht
    cases u <;> simp only [MIs] at h2
    obtain ⟨rfl, rfl, h3, h4⟩ := h2
    simp only [Is]
    exact ⟨a, _, _, rfl, upd_same, h3, IsL.up A1.ge _ _ h4⟩
  | dic _ _ => cases ht
  | rng _ _ => cases ht
theorem dp_frz {e : Expr} {f : DTE} (h : PE X e (liftE M W f)) : PE X e (liftE M W (dFrz f)) :=
  PEw h fun σ H Q ⟨pn, G, n, δ, q, e, R, hf, hQ, hX⟩ => by
    refine ⟨pn, G, n, δ, _, e, R, hf, fun G1 v d n1 H1 A1 R1 i1 h1 => ?_, hX⟩
    obtain ⟨a, o, t, rfl, h2, h3, h4⟩ := h1
    obtain ⟨G2, R2, A2, i2⟩ := frz_is R1 h2 h3
    simp only [Is] at i1
    subst i1
    exact hQ G2 (.ref a) t _ _ (R.tr A1 A2) R2 i2 h4
/-! ### calls of built-ins by values -/
def DRC (M : LK) (r : List V → Hp → VK → Prop) (g : List D → NS → (D → NS → Prop) → Prop) : Prop := ∀ (pn : Addr) (G : Hp) (n : NS) (σ : L2.St) (δ : DEnv) (H : Hp) (vs : List V) (xs : List D) (q : D → NS → Prop) (Q : VK), Rep M pn G n σ δ H → IsL M G vs xs → g xs n q →
  (∀ G' w d n' H', Adv pn G H G' H' → Rep M pn G' n' σ δ H' → Is M G' w d → q d n' → Q w H') → r vs H Q
def dCB (g : List D → NS → (D → NS → Prop) → Prop) (f : DTA) : DTE := fun δ n q e => f δ n (fun xs n1 => g xs n1 q) e
theorem dp_cb {e : Expr} {r : List V → Hp → VK → Prop} {g : List D → NS → (D → NS → Prop) → Prop} {f : DTA} (h : PE X e (tCB r (liftA M W f))) (hr : DRC M r g) : PE X e (liftE M W (dCB g f)) :=
  PEw h fun σ H Q ⟨pn, G, n, δ, q, e, R, hf, hQ, hX⟩ => by
    refine ⟨pn, G, n, δ, _, e, R, hf, fun G1 vs ds n1 H1 A1 R1 i1 h1 => ?_, hX⟩
    exact hr pn G1 n1 σ δ H1 vs ds q Q R1 i1 h1 fun G2 w d n2 H2 A2 R2 i2 h2 => hQ G2 w d n2 H2 (R.tr A1 A2) R2 i2 h2
/-- a method of a text -/
def DRM (M : LK) (r : V → List V → Hp → VK → Prop) (g : D → List D → NS → (D → NS → Prop) → Prop) : Prop := ∀ (pn : Addr) (G : Hp) (n : NS) (σ : L2.St) (δ : DEnv) (H : Hp) (v : V) (vs : List V) (x : D) (xs : List D) (q : D → NS → Prop) (Q : VK), Rep M pn G n σ δ H → Is M G v x → IsL M G vs xs → g x xs n q →
  (∀ G' w d n' H', Adv pn G H G' H' → Rep M pn G' n' σ δ H' → Is M G' w d → q d n' → Q w H') → r v vs H Q
def dM0 (g : D → List D → NS → (D → NS → Prop) → Prop) (f : DTE) : DTE := fun δ n q e => f δ n (fun x n1 => match x with | .str l => g (.str l) [] n1 q | _ => False) e
def dM1 (g : D → List D → NS → (D → NS → Prop) → Prop) (f h : DTE) : DTE := fun δ n q e => f δ n (fun x n1 => match x with | .str l => h δ n1 (fun y n2 => g (.str l) [y] n2 q) e | _ => False) e
theorem dp_m0 {e : Expr} {r : V → List V → Hp → VK → Prop} {g : D → List D → NS → (D → NS → Prop) → Prop} {f : DTE} (h : PE X e (tM0 r (liftE M W f))) (hr : DRM M r g) : PE X e (liftE M W (dM0 g f)) :=
  PEw h fun σ H Q ⟨pn, G, n, δ, q, e, R, hf, hQ, hX⟩ => by
    refine ⟨pn, G, n, δ, _, e, R, hf, fun G1 v d n1 H1 A1 R1 i1 h1 => ?_, hX⟩
    cases d with
    | str l =>
      have i1' := i1
      simp only [Is] at i1'
      exact ⟨⟨_, i1'⟩, hr pn G1 n1 σ δ H1 v [] (.str l) [] q Q R1 i1 (by simp only [IsL]) h1 fun G2 w d n2 H2 A2 R2 i2 h2 => hQ G2 w d n2 H2 (R.tr A1 A2) R2 i2 h2⟩
    | _ => exact h1.elim
theorem dp_m1 {e : Expr} {r : V → List V → Hp → VK → Prop} {g : D → List D → NS → (D → NS → Prop) → Prop} {f h : DTE} (hp : PE X e (tM1 r (liftE M W f) (liftE M W h))) (hr : DRM M r g) : PE X e (liftE M W (dM1 g f h)) :=
  PEw hp fun σ H Q ⟨pn, G, n, δ, q, e, R, hf, hQ, hX⟩ => by
    refine ⟨pn, G, n, δ, _, e, R, hf, fun G1 v d n1 H1 A1 R1 i1 h1 => ?_, hX⟩
    cases d with
    | str l =>
      have i1' := i1
      simp only [Is] at i1'
      refine ⟨⟨_, i1'⟩, pn, G1, n1, δ, _, e, R1, h1, fun G2 u y n2 H2 A2 R2 i2 h2 => ?_, hX.on R A1⟩
      exact hr pn G2 n2 σ δ H2 v [u] (.str l) [y] q Q R2 (Is.up A2.ge _ v i1) (by simp only [IsL]; exact ⟨i2, trivial⟩) h2 fun G3 w d n3 H3 A3 R3 i3 h3 => hQ G3 w d n3 H3 (R.tr (R.tr A1 A2) A3) R3 i3 h3
    | _ => exact h1.elim
end
end DL

set_option Elab.async false
set_option linter.all false
set_option maxRecDepth 100000
set_option maxHeartbeats 4000000
set_option autoImplicit false
/-! The data layer: statements, loops, comprehensions. -/
namespace DL
open PySem PySem.Spec PyProof.Rows L2
section
variable {X : Cx} {M : LK} {W : WX}
theorem SEnd.on {pn : Addr} {G G1 H H1 : Hp} {D₀ : Ends} {k : DEnds} {n : NS} {σ : L2.St} {δ : DEnv} (s : SEnd M W pn G H D₀ k) (R : Rep M pn G n σ δ H) (A : Adv pn G H G1 H1) : SEnd M W pn G1 H1 D₀ k where
  nx := fun G' σ' δ' n' H' A' => s.nx G' σ' δ' n' H' (R.tr A A')
  rt := fun G' σ' δ' v d n' H' A' => s.rt G' σ' δ' v d n' H' (R.tr A A')
  bk := fun G' σ' δ' n' H' A' => s.bk G' σ' δ' n' H' (R.tr A A')
  ct := fun G' σ' δ' n' H' A' => s.ct G' σ' δ' n' H' (R.tr A A')
  ex := fun G' σ' δ' C a ns ds n' H' A' => s.ex G' σ' δ' C a ns ds n' H' (R.tr A A')
theorem SEnd.xe {pn : Addr} {G H : Hp} {D₀ : Ends} {k : DEnds} {σ : L2.St} {δ : DEnv} (s : SEnd M W pn G H D₀ k) : XEnd M W pn G σ δ H k.ex := fun G' C a ns ds n' H' A' R' h q => s.ex G' σ δ C a ns ds n' H' A' R' h q
/-! ### blocks -/
def dNext : DTS := fun k δ n => k.nx δ n
def dSeq (f g : DTS) : DTS := fun k δ n => f { k with nx := fun δ' n' => g k δ' n' } δ n
theorem dss_nil : PSs X [] (liftS M W dNext) := PSsw pss_nil fun D₀ σ H ⟨pn, G, n, δ, k, R, hf, s⟩ => s.nx G σ δ n H Adv.refl R hf
theorem dss_cons {st : Stmt} {rest : List Stmt} {f g : DTS} (h1 : PS X st (liftS M W f)) (h2 : PSs X rest (liftS M W g)) : PSs X (st :: rest) (liftS M W (dSeq f g)) :=
  PSsw (pss_cons h1 h2) fun D₀ σ H ⟨pn, G, n, δ, k, R, hf, s⟩ => ⟨pn, G, n, δ, _, R, hf,
    ⟨fun G' σ' δ' n' H' A' R' h => ⟨pn, G', n', δ', k, R', h, s.on R A'⟩, s.rt, s.bk, s.ct, s.ex⟩⟩
theorem dss_one {st : Stmt} {f : DTS} (h1 : PS X st (liftS M W f)) : PSs X [st] (liftS M W f) := pss_one h1
def dBreak : DTS := fun k δ n => k.bk δ n
def dCont : DTS := fun k δ n => k.ct δ n
theorem ds_pass {pos : Pos} : PS X (.Pass pos) (liftS M W dNext) := PSw ps_pass fun D₀ σ H ⟨pn, G, n, δ, k, R, hf, s⟩ => s.nx G σ δ n H Adv.refl R hf
theorem ds_break {pos : Pos} : PS X (.Break pos) (liftS M W dBreak) := PSw ps_break fun D₀ σ H ⟨pn, G, n, δ, k, R, hf, s⟩ => s.bk G σ δ n H Adv.refl R hf
theorem ds_continue {pos : Pos} : PS X (.Continue pos) (liftS M W dCont) := PSw ps_continue fun D₀ σ H ⟨pn, G, n, δ, k, R, hf, s⟩ => s.ct G σ δ n H Adv.refl R hf
def dDrop (f : DTE) : DTS := fun k δ n => f δ n (fun _ n1 => k.nx δ n1) k.ex
theorem ds_expr {e : Expr} {pos : Pos} {f : DTE} (h : PE X e (liftE M W f)) (hs : swapsWith e none pos.line X.env = pure false := by rfl) : PS X (.Expr e pos) (liftS M W (dDrop f)) :=
  PSw (ps_expr h hs) fun D₀ σ H ⟨pn, G, n, δ, k, R, hf, s⟩ => ⟨pn, G, n, δ, _, k.ex, R, hf, fun G' v d n' H' A' R' i' h => s.nx G' σ δ n' H' A' R' h, s.xe⟩
def dRet (f : DTE) : DTS := fun k δ n => f δ n k.rt k.ex
theorem ds_ret {e : Expr} {pos : Pos} {f : DTE} (h : PE X e (liftE M W f)) : PS X (.Return (some e) pos) (liftS M W (dRet f)) :=
  PSw (ps_ret h) fun D₀ σ H ⟨pn, G, n, δ, k, R, hf, s⟩ => ⟨pn, G, n, δ, _, k.ex, R, hf, fun G' v d n' H' A' R' i' h => s.rt G' σ δ v d n' H' A' R' i' h, s.xe⟩
def dRetN : DTS := fun k _ n => k.rt .non n
theorem ds_retN {pos : Pos} : PS X (.Return none pos) (liftS M W dRetN) :=
  PSw ps_retN fun D₀ σ H ⟨pn, G, n, δ, k, R, hf, s⟩ => s.rt G σ δ .non .non n H Adv.refl R (by simp only [Is]) hf
def dIfS (c : DTT) (f g : DTS) : DTS := fun k δ n => c δ n (fun b n1 => match b with | true => f k δ n1 | false => g k δ n1) k.ex
theorem ds_if {c : Expr} {a b : List Stmt} {pos : Pos} {tc : DTT} {f g : DTS} (hc : PT X c (liftT M W tc)) (ha : PSs X a (liftS M W f)) (hb : PSs X b (liftS M W g)) : PS X (.If c a b pos) (liftS M W (dIfS tc f g)) :=
  PSw (ps_if hc ha hb) fun D₀ σ H ⟨pn, G, n, δ, k, R, hf, s⟩ => by
    refine ⟨pn, G, n, δ, _, k.ex, R, hf, fun G1 b n1 H1 A1 R1 h1 => ?_, s.xe⟩
    cases b with
    | true => exact iteT ⟨pn, G1, n1, δ, k, R1, h1, s.on R A1⟩
    | false => exact iteF ⟨pn, G1, n1, δ, k, R1, h1, s.on R A1⟩
theorem ds_never {st : Stmt} : PS X st (liftS M W fun _ _ _ => False) := PSw (t := tNever) ps_never fun D₀ σ H ⟨pn, G, n, δ, k, R, hf, s⟩ => hf
/-! ### targets -/
abbrev DTG := D → DEnv → NS → (DEnv → NS → Prop) → Prop
abbrev DTGs := List D → DEnv → NS → (DEnv → NS → Prop) → Prop
def wipeD (δ : DEnv) : List Nat → DEnv
  | [] => δ
  | v :: vs => (wipeD δ vs).set v none
/-- vs: the slots that may change -/
def liftG (M : LK) (vs : List Nat) (g : DTG) : TG := fun v σ H Q => ∃ pn G n δ d q, Rep M pn G n σ δ H ∧ Is M G v d ∧ g d δ n q ∧ ∀ G' σ' δ' n' H', Adv pn G H G' H' → Rep M pn G' n' σ' δ' H' → wipe σ' vs = wipe σ vs → q δ' n' → Q σ' H'
def liftGs (M : LK) (vs : List Nat) (g : DTGs) : TGs := fun us σ H Q => ∃ pn G n δ ds q, Rep M pn G n σ δ H ∧ IsL M G us ds ∧ g ds δ n q ∧ ∀ G' σ' δ' n' H', Adv pn G H G' H' → Rep M pn G' n' σ' δ' H' → wipe σ' vs = wipe σ vs → q δ' n' → Q σ' H'
theorem PGw {X : Cx} {e : Expr} {t t' : TG} (h : PG X e t) (w : ∀ v σ H Q, t' v σ H Q → t v σ H Q) : PG X e t' := ⟨fun pins s σ H v u Q I r q => h.run pins s σ H v u Q I r (w _ _ _ _ q)⟩
theorem PGsw {X : Cx} {e : List Expr} {t t' : TGs} (h : PGs X e t) (w : ∀ v σ H Q, t' v σ H Q → t v σ H Q) : PGs X e t' := ⟨fun pins s σ H v u Q I r q => h.run pins s σ H v u Q I r (w _ _ _ _ q)⟩
def dgName (i : Nat) : DTG := fun d δ n q => q (δ.set i (some d)) n
theorem wipe_set {σ : L2.St} {i : Nat} {x : Option V} : ∀ {vs : List Nat}, i ∈ vs → wipe (σ.set i x) vs = wipe σ vs
  | v :: vs, h => by
    unfold wipe
    by_cases e : i ∈ vs
    · rw [wipe_set e]
    · have ev : i = v := by
        rcases List.mem_cons.mp h with h | h
        · exact h
        · exact absurd h e
      subst ev
      have : ∀ (σ : L2.St) (ws : List Nat), i ∉ ws → wipe (σ.set i x) ws = (wipe σ ws).set i x := by
        intro σ ws
        induction ws with
        | nil => intro _; rfl
        | cons w ws ih =>
          intro hn
          have h1 : i ≠ w := fun z => hn (by rw [z]; exact List.mem_cons_self)
          have h2 : i ∉ ws := fun z => hn (List.mem_cons_of_mem _ z)
          unfold wipe
          rw [ih h2, List.set_comm _ _ h1]
      rw [this σ vs e, List.set_set]
theorem Rep.put {pn : Addr} {G H : Hp} {n : NS} {σ : L2.St} {δ : DEnv} {i : Nat} {v : V} {d : D} (R : Rep M pn G n σ δ H) (h : Is M G v d) : Rep M pn G n (σ.set i (some v)) (δ.set i (some d)) H := ⟨R.ex, R.pen, R.tab, R.nt, R.pe, R.mu, R.env.set h⟩
theorem dg_of {tg : Expr} {i : Nat} {vs : List Nat} (h : PG X tg (gName i)) (hi : i ∈ vs) : PG X tg (liftG M vs (dgName i)) :=
  PGw h fun v σ H Q ⟨pn, G, n, δ, d, q, R, hi', hg, hQ⟩ => hQ G (σ.set i (some v)) (δ.set i (some d)) n H Adv.refl (R.put hi') (wipe_set hi) hg
def dgNil : DTGs := fun ds δ n q => match ds with | [] => q δ n | _ => False
def dgCons (g : DTG) (gs : DTGs) : DTGs := fun ds δ n q => match ds with | d :: r => g d δ n fun δ' n' => gs r δ' n' q | [] => False
theorem dgs_nil {vs : List Nat} : PGs X [] (liftGs M vs dgNil) := PGsw pgs_nil fun us σ H Q ⟨pn, G, n, δ, ds, q, R, hi, hg, hQ⟩ => by
  cases ds with
  | nil =>
    cases us with
    | nil => exact ⟨rfl, hQ G σ δ n H Adv.refl R rfl hg⟩
    | cons _ _ => simp only [IsL] at hi
  | cons _ _ => exact hg.elim
theorem dgs_cons {e : Expr} {es : List Expr} {vs : List Nat} {g : DTG} {gs : DTGs} (h1 : PG X e (liftG M vs g)) (h2 : PGs X es (liftGs M vs gs)) (hs : (assignEach (e :: es) X.env).map (·.2) = assign e X.env :: (assignEach es X.env).map (·.2) := by rfl) : PGs X (e :: es) (liftGs M vs (dgCons g gs)) :=
  PGsw (pgs_cons h1 h2 hs) fun us σ H Q ⟨pn, G, n, δ, ds, q, R, hi, hg, hQ⟩ => by
    cases ds with
    | nil => exact hg.elim
    | cons d r =>
      cases us with
      | nil => simp only [IsL] at hi
      | cons u ur =>
        simp only [IsL] at hi
        refine ⟨u, ur, rfl, pn, G, n, δ, d, _, R, hi.1, hg, fun G1 σ1 δ1 n1 H1 A1 R1 w1 h1 => ?_⟩
        exact ⟨pn, G1, n1, δ1, r, q, R1, IsL.up A1.ge r ur hi.2, h1, fun G2 σ2 δ2 n2 H2 A2 R2 w2 h2 => hQ G2 σ2 δ2 n2 H2 (R.tr A1 A2) R2 (w2.trans w1) h2⟩
/-- (a, b, ..) = a tuple -/
def dgTup (m : Nat) (gs : DTGs) : DTG := fun d δ n q => match d with | .tup xs => xs.length = m ∧ gs xs δ n q | _ => False
theorem dg_tup {es : List Expr} {k : Nat} {pos : Pos} {m : Nat} {vs : List Nat} {gs : DTGs} (hK : X.K = M.L.K) (hc : X.calm = true) (h : PGs X es (liftGs M vs gs)) (hn : (assignEach es X.env).length = m := by rfl) (hst : (assignEach es X.env).findIdx? (·.1) = none := by rfl) : PG X (.Tuple es k pos) (liftG M vs (dgTup m gs)) :=
  PGw (pg_tup hc h hn hst) fun v σ H Q ⟨pn, G, n, δ, d, q, R, hi, hg, hQ⟩ => by
    cases d with
    | tup xs =>
      simp only [Is] at hi
      obtain ⟨p, us, rfl, h1, h2⟩ := hi
      exact ⟨p, us, rfl, by rw [hK]; exact R.ex.seqT h1, by rw [h2.length]; exact hg.1, pn, G, n, δ, xs, q, R, h2, hg.2, hQ⟩
    | _ => exact hg.elim
/-- target = e -/
def dAsg (f : DTE) (g : DTG) : DTS := fun k δ n => f δ n (fun d n1 => g d δ n1 fun δ' n2 => k.nx δ' n2) k.ex
theorem liftS_asg {f : DTE} {g : DTG} {vs : List Nat} (D₀ : Ends) (σ : L2.St) (H : Hp) (h : liftS M W (dAsg f g) D₀ σ H) : tAsg (liftE M W f) (liftG M vs g) D₀ σ H := by
  obtain ⟨pn, G, n, δ, k, R, hf, s⟩ := h
  refine ⟨pn, G, n, δ, _, k.ex, R, hf, fun G1 v d n1 H1 A1 R1 i1 h1 => ?_, s.xe⟩
  exact ⟨pn, G1, n1, δ, d, _, R1, i1, h1, fun G2 σ2 δ2 n2 H2 A2 R2 _ h2 => s.nx G2 σ2 δ2 n2 H2 (R.tr A1 A2) R2 h2⟩
theorem ds_asg {st : Stmt} {f : DTE} {g : DTG} {vs : List Nat} (h : PS X st (tAsg (liftE M W f) (liftG M vs g))) : PS X st (liftS M W (dAsg f g)) := PSw h liftS_asg
theorem liftS_set {f : DTE} {i : Nat} (D₀ : Ends) (σ : L2.St) (H : Hp) (h : liftS M W (dAsg f (dgName i)) D₀ σ H) : tAsg (liftE M W f) (gName i) D₀ σ H := by
  obtain ⟨pn, G, n, δ, k, R, hf, s⟩ := h
  refine ⟨pn, G, n, δ, _, k.ex, R, hf, fun G1 v d n1 H1 A1 R1 i1 h1 => ?_, s.xe⟩
  exact s.nx G1 (σ.set i (some v)) (δ.set i (some d)) n1 H1 A1 (R1.put i1) h1
theorem ds_set {st : Stmt} {f : DTE} {i : Nat} (h : PS X st (tAsg (liftE M W f) (gName i))) : PS X st (liftS M W (dAsg f (dgName i))) := PSw h liftS_set
/-- a, b = x, y -/
def dPar (i j : Nat) (f : DTA) : DTS := fun k δ n => f δ n (fun ds n1 => match ds with | [x, y] => k.nx ((δ.set i (some x)).set j (some y)) n1 | _ => False) k.ex
theorem ds_par {st : Stmt} {f : DTA} {i j : Nat} (h : PS X st (tPar i j (liftA M W f))) : PS X st (liftS M W (dPar i j f)) :=
  PSw h fun D₀ σ H ⟨pn, G, n, δ, k, R, hf, s⟩ => by
    refine ⟨pn, G, n, δ, _, k.ex, R, hf, fun G1 vs ds n1 H1 A1 R1 i1 h1 => ?_, s.xe⟩
    match ds, vs, i1, h1 with
    | [x, y], [v, w], i1, h1 =>
      simp only [IsL] at i1
      exact ⟨v, w, rfl, s.nx G1 _ _ n1 H1 A1 ((R1.put i1.1).put i1.2.1) h1⟩
    | [x, y], [], i1, _ => simp only [IsL] at i1
    | [x, y], [_], i1, _ => simp only [IsL, and_false] at i1
    | [x, y], _ :: _ :: _ :: _, i1, _ => simp only [IsL, and_false] at i1
    | [], _, _, h1 => exact h1.elim
    | [_], _, _, h1 => exact h1.elim
    | _ :: _ :: _ :: _, _, _, h1 => exact h1.elim
/-! ### while -/
def dWhile (c : DTT) (body : DTS) : DTS := fun k δ n => ∃ Wf : Nat → DEnv → NS → Prop, (∃ m, Wf m δ n) ∧ ∀ m δ n, Wf m δ n → c δ n (fun b n1 => match b with
  | true => ∃ N : DEnv → NS → Prop, (∀ δ' n', N δ' n' → ∃ m', m' < m ∧ Wf m' δ' n') ∧ body { k with nx := N, ct := N, bk := k.nx } δ n1
  | false => k.nx δ n1) k.ex
theorem ds_while {c : Expr} {body : List Stmt} {pos : Pos} {tc : DTT} {f : DTS} (hp : PassesOwn (model X.prog X.w) X.A X.env X.xe) (hc : PT X c (liftT M W tc)) (hb : PSs X body (liftS M W f)) : PS X (.While c body [] pos) (liftS M W (dWhile tc f)) :=
  PSw (ps_while hp hc hb) fun D₀ σ H ⟨pn, G, n, δ, k, R, ⟨Wf, ⟨m0, w0⟩, hw⟩, s⟩ => by
    refine ⟨fun m σ' H' => ∃ G' n' δ', Rep M pn G' n' σ' δ' H' ∧ Adv pn G H G' H' ∧ Wf m δ' n', ⟨m0, G, n, δ, R, Adv.refl, w0⟩, ?_⟩
    rintro m σ1 H1 ⟨G1, n1, δ1, R1, A1, w1⟩
    refine ⟨pn, G1, n1, δ1, _, k.ex, R1, hw m δ1 n1 w1, fun G2 b n2 H2 A2 R2 h2 => ?_, (s.on R A1).xe⟩
    have A12 := R.tr A1 A2
    cases b with
    | true =>
      obtain ⟨N, hN, hb⟩ := h2
      refine iteT ⟨fun σ' H' => ∃ G' n' δ', Rep M pn G' n' σ' δ' H' ∧ Adv pn G H G' H' ∧ N δ' n', fun σ' H' ⟨G', n', δ', R', A', h'⟩ => ?_, pn, G2, n2, δ1, _, R2, hb, ?_⟩
      · obtain ⟨m', hm, w'⟩ := hN δ' n' h'
        exact ⟨m', hm, G', n', δ', R', A', w'⟩
      · have s2 := s.on R A12
        exact ⟨fun G' σ' δ' n' H' A' R' h' => ⟨G', n', δ', R', R.tr A12 A', h'⟩, s2.rt, fun G' σ' δ' n' H' A' R' h' => s2.nx G' σ' δ' n' H' A' R' h', fun G' σ' δ' n' H' A' R' h' => ⟨G', n', δ', R', R.tr A12 A', h'⟩, s2.ex⟩
    | false => exact iteF (s.nx G2 σ1 δ1 n2 H2 A12 R2 h2)
/-! ### what is walked: its items -/
structure Yields (M : LK) (pn : Addr) (G0 H0 : Hp) (J : It) (ds : List D) : Prop where
  go : ∀ i G H n σ δ, Ext G0 G → Rep M pn G n σ δ H → ∀ d, ds[i]? = some d → J.go i H ∧ ∀ x H', J.yld i H x H' → ∃ G', Adv pn G H G' H' ∧ Rep M pn G' n σ δ H' ∧ Is M G' x d
  stop : ∀ G H n σ δ, Ext G0 G → Rep M pn G n σ δ H → J.stop ds.length H
abbrev DTI := DEnv → NS → (List D → NS → Prop) → DX → Prop
def liftI (M : LK) (W : WX) (f : DTI) : TI := fun σ H R => ∃ pn G n δ q e, Rep M pn G n σ δ H ∧ f δ n q e ∧
  (∀ G' ds n' H' J, Adv pn G H G' H' → Rep M pn G' n' σ δ H' → Yields M pn G' H' J ds → q ds n' → R J H') ∧ XEnd M W pn G σ δ H e
theorem PIw {X : Cx} {tg e : Expr} {t t' : TI} (h : PI X tg e t) (w : ∀ σ H Q, t' σ H Q → t σ H Q) : PI X tg e t' := ⟨fun pins s σ H R I q => h.run pins s σ H R I (w _ _ _ q)⟩
def dForL (g : DTG) (body : DTS) : List D → DEnds → DEnv → NS → Prop
  | [], k, δ, n => k.nx δ n
  | d :: ds, k, δ, n => g d δ n fun δ' n' => body { k with nx := fun δ2 n2 => dForL g body ds k δ2 n2, ct := fun δ2 n2 => dForL g body ds k δ2 n2, bk := k.nx } δ' n'
def dFor (it : DTI) (g : DTG) (body : DTS) : DTS := fun k δ n => it δ n (fun ds n1 => dForL g body ds k δ n1) k.ex
theorem ds_for {tg iter : Expr} {body : List Stmt} {pos : Pos} {it : DTI} {g : DTG} {vs : List Nat} {f : DTS} (hp : PassesOwn (model X.prog X.w) X.A X.env X.xe) (hc : X.calm = true) (hi : PI X tg iter (liftI M W it)) (hg : PG X tg (liftG M vs g)) (hb : PSs X body (liftS M W f))
    (hs : ∀ x, foldedSetIterable iter X.env x = pure x := by intro _; rfl) : PS X (.For tg iter body [] pos) (liftS M W (dFor it g f)) :=
  PSw (ps_for hp hc hi hg hb hs) fun D₀ σ H ⟨pn, G, n, δ, k, R, hf, s⟩ => by
    refine ⟨pn, G, n, δ, _, k.ex, R, hf, fun G1 ds n1 H1 J A1 R1 Y h1 => ?_, s.xe⟩
    refine ⟨fun i m σ' H' => m = ds.length - i ∧ i ≤ ds.length ∧ ∃ G' n' δ', Rep M pn G' n' σ' δ' H' ∧ Adv pn G1 H1 G' H' ∧ dForL g f (ds.drop i) k δ' n', ⟨ds.length, rfl, Nat.zero_le _, G1, n1, δ, R1, Adv.refl, h1⟩, ?_⟩
    rintro i m σ2 H2 ⟨rfl, hi, G2, n2, δ2, R2, A2, h2⟩
    have A02 := R.tr A1 A2
    by_cases hlt : i < ds.length
    · obtain ⟨d, hd⟩ : ∃ d, ds[i]? = some d := ⟨ds[i], by simp [hlt]⟩
      have e1 : ds.drop i = d :: ds.drop (i + 1) := by
        rw [List.drop_eq_getElem_cons hlt]
        congr 1
        rw [List.getElem?_eq_getElem hlt] at hd
        exact Option.some.inj hd
      rw [e1] at h2
      obtain ⟨g1, g2⟩ := Y.go i G2 H2 n2 σ2 δ2 A2.ge R2 d hd
      refine .inr ⟨g1, fun σ' H' => ∃ G' n' δ', Rep M pn G' n' σ' δ' H' ∧ Adv pn G1 H1 G' H' ∧ dForL g f (ds.drop (i + 1)) k δ' n', fun σ' H' h' => ⟨ds.length - (i + 1), by omega, rfl, hlt, h'⟩, fun x H3 hy => ?_⟩
      obtain ⟨G3, A3, R3, i3⟩ := g2 x H3 hy
      refine ⟨pn, G3, n2, δ2, d, _, R3, i3, h2, fun G4 σ4 δ4 n4 H4 A4 R4 _ h4 => ?_⟩
      have A24 := R2.tr A3 A4
      have s4 := s.on R (R.tr A02 A24)
      exact ⟨pn, G4, n4, δ4, _, R4, h4, ⟨fun G' σ' δ' n' H' A' R' h' => ⟨G', n', δ', R', R1.tr (R1.tr A2 A24) A', h'⟩, s4.rt, fun G' σ' δ' n' H' A' R' h' => s4.nx G' σ' δ' n' H' A' R' h', fun G' σ' δ' n' H' A' R' h' => ⟨G', n', δ', R', R1.tr (R1.tr A2 A24) A', h'⟩, s4.ex⟩⟩
    · have e : i = ds.length := by omega
      subst e
      rw [List.drop_length] at h2
      exact .inl ⟨Y.stop G2 H2 n2 σ2 δ2 A2.ge R2, s.nx G2 σ2 δ2 n2 H2 A02 R2 h2⟩
/-- the items of a list, a tuple, a text -/
def items : D → Option (List D)
  | .lst xs => some xs
  | .tup xs => some xs
  | .str l => some (l.map fun c => .str [c])
  | _ => none
def diSeq (f : DTE) : DTI := fun δ n q e => f δ n (fun d n1 => match items d with | some ds => q ds n1 | none => False) e
theorem yields_list {pn a : Addr} {G0 H0 : Hp} {vs : List V} {ds : List D} (h : G0 a = some (.lst vs)) (hi : IsL M G0 vs ds) : Yields M pn G0 H0 (Itl M.L.K a) ds where
  go := fun i G H n σ δ A R d hd => by
    have e : H a = some (.lst vs) := R.ex _ _ (A _ _ h)
    obtain ⟨v, h1, h2⟩ := IsL.get (IsL.up A ds vs hi) hd
    refine ⟨⟨vs, v, SqL.of e, h1⟩, fun x H' y => ?_⟩
    obtain ⟨rfl, y⟩ := y
    have ex := y vs (SqL.of e)
    rw [h1] at ex
    cases ex
    exact ⟨G, Adv.refl, R, h2⟩
  stop := fun G H n σ δ A R => ⟨vs, SqL.of (R.ex _ _ (A _ _ h)), by rw [hi.length]; exact Nat.le_refl _⟩
theorem yields_tup {pn a : Addr} {G0 H0 : Hp} {vs : List V} {ds : List D} (h : SqT M.L.K G0 a vs) (hi : IsL M G0 vs ds) : Yields M pn G0 H0 (Itt M.L.K a) ds where
  go := fun i G H n σ δ A R d hd => by
    have e : SqT M.L.K H a vs := R.ex.seqT (Ext.seqT A h)
    obtain ⟨v, h1, h2⟩ := IsL.get (IsL.up A ds vs hi) hd
    refine ⟨⟨vs, v, e, h1⟩, fun x H' y => ?_⟩
    obtain ⟨rfl, y⟩ := y
    have ex := y vs e
    rw [h1] at ex
    cases ex
    exact ⟨G, Adv.refl, R, h2⟩
  stop := fun G H n σ δ A R => ⟨vs, R.ex.seqT (Ext.seqT A h), by rw [hi.length]; exact Nat.le_refl _⟩
theorem yields_str {pn : Addr} {G0 H0 : Hp} {l : List Nat} : Yields M pn G0 H0 (Its (S l)) (l.map fun c => .str [c]) where
  go := fun i G H n σ δ A R d hd => by
    rw [List.getElem?_map] at hd
    cases e : l[i]? with
    | none => rw [e] at hd; cases hd
    | some c =>
      rw [e] at hd
      cases hd
      have hlt := (List.getElem?_eq_some_iff.mp e).1
      refine ⟨by simpa [Its, S] using hlt, fun x H' y => ?_⟩
      obtain ⟨rfl, c', h1, rfl⟩ := y
      have h1' : l[i]? = some c' := by simpa [S] using h1
      rw [e] at h1'
      cases h1'
      exact ⟨G, Adv.refl, R, by simp only [Is]⟩
  stop := fun G H n σ δ A R => by simp [Its, S]
/-- lo, lo + 1, .. -/
def rangeD (lo : Int) (n : Nat) : List D := (List.range n).map fun i => .int (lo + (i : Nat))
theorem yields_range {pn : Addr} {G0 H0 : Hp} {lo : Int} {m : Nat} : Yields M pn G0 H0 (Itr lo m) (rangeD lo m) where
  go := fun i G H n σ δ A R d hd => by
    have hlt : i < m := by
      have := (List.getElem?_eq_some_iff.mp hd).1
      simpa [rangeD] using this
    have e : d = .int (lo + (i : Nat)) := by
      unfold rangeD at hd
      rw [List.getElem?_map, List.getElem?_range hlt] at hd
      exact (Option.some.inj hd).symm
    refine ⟨hlt, fun x H' y => ?_⟩
    obtain ⟨rfl, rfl⟩ := y
    exact ⟨G, Adv.refl, R, by rw [e]; simp only [Is]⟩
  stop := fun G H n σ δ A R => by show m ≤ (rangeD lo m).length; simp [rangeD]
theorem yields_enum {pn a : Addr} {G0 H0 : Hp} {vs : List V} {ds : List D} (h : G0 a = some (.lst vs)) (hi : IsL M G0 vs ds) : Yields M pn G0 H0 (Ite M.L.K a) (ds.zipIdx.map fun p => .tup [.int (p.2 : Nat), p.1]) where
  go := fun i G H n σ δ A R d hd => by
    have e : H a = some (.lst vs) := R.ex _ _ (A _ _ h)
    rw [List.getElem?_map, List.getElem?_zipIdx] at hd
    cases e1 : ds[i]? with
    | none => rw [e1] at hd; cases hd
    | some d1 =>
      rw [e1] at hd
      cases hd
      obtain ⟨v, h1, h2⟩ := IsL.get (IsL.up A ds vs hi) e1
      refine ⟨⟨vs, v, SqL.of e, h1⟩, fun x H' y => ?_⟩
      obtain ⟨T, u, rfl, hT, rfl, y⟩ := y
      have ex := y vs (SqL.of e)
      rw [h1] at ex
      cases ex
      obtain ⟨R2, A2⟩ := R.lay (o := .tup [.int (i : Nat), v]) hT notTbl_tup
      refine ⟨_, A2, R2, ?_⟩
      simp only [Is, IsL, Option.map, Nat.zero_add]
      exact ⟨T, _, rfl, SqT.of upd_same, by simp only [IsL, Is]; exact ⟨trivial, Is.up A2.ge d1 v h2, trivial⟩⟩
  stop := fun G H n σ δ A R => ⟨vs, SqL.of (R.ex _ _ (A _ _ h)), by simp [hi.length]⟩
theorem yields_zip {pn a b : Addr} {G0 H0 : Hp} {vs us : List V} {ds es : List D} (h : G0 a = some (.lst vs)) (hi : IsL M G0 vs ds) (h' : G0 b = some (.lst us)) (hi' : IsL M G0 us es) : Yields M pn G0 H0 (Itz M.L.K a b) ((ds.zip es).map fun p => .tup [p.1, p.2]) where
  go := fun i G H n σ δ A R d hd => by
    have e : H a = some (.lst vs) := R.ex _ _ (A _ _ h)
    have e' : H b = some (.lst us) := R.ex _ _ (A _ _ h')
    rw [List.getElem?_map] at hd
    cases e1 : (ds.zip es)[i]? with
    | none => rw [e1] at hd; cases hd
    | some p =>
      rw [e1] at hd
      cases hd
      obtain ⟨z1, z2⟩ := List.getElem?_zip_eq_some.mp e1
      obtain ⟨v, h1, h2⟩ := IsL.get (IsL.up A ds vs hi) z1
      obtain ⟨u, h3, h4⟩ := IsL.get (IsL.up A es us hi') z2
      refine ⟨⟨vs, us, v, u, SqL.of e, SqL.of e', h1, h3⟩, fun x H' y => ?_⟩
      obtain ⟨T, x1, y1, rfl, hT, rfl, y, y'⟩ := y
      have ex := y vs (SqL.of e)
      rw [h1] at ex
      cases ex
      have ex' := y' us (SqL.of e')
      rw [h3] at ex'
      cases ex'
      obtain ⟨R2, A2⟩ := R.lay (o := .tup [v, u]) hT notTbl_tup
      refine ⟨_, A2, R2, ?_⟩
      simp only [Is]
      exact ⟨T, _, rfl, SqT.of upd_same, by simp only [IsL]; exact ⟨Is.up A2.ge _ v h2, Is.up A2.ge _ u h4, trivial⟩⟩
  stop := fun G H n σ δ A R => ⟨vs, us, SqL.of (R.ex _ _ (A _ _ h)), SqL.of (R.ex _ _ (A _ _ h')), by
    have e1 := hi.length
    have e2 := hi'.length
    rw [List.length_map, List.length_zip]
    omega⟩
theorem di_list {tg l : Expr} {f : DTE} (hK : X.K = M.L.K) (h : PE X l (liftE M W f)) : PI X tg l (liftI M W (diSeq f)) := by
  have key : PI X tg l (fun σ H R => liftE M W f σ H fun x H1 => (∃ a, x = .ref a ∧ (∃ xs, SqL X.K H1 a xs) ∧ R (Itl X.K a) H1) ∨ (∃ a, x = .ref a ∧ (∃ xs, SqT X.K H1 a xs) ∧ R (Itt X.K a) H1) ∨ (∃ z, x = .str z ∧ R (Its z) H1)) := by
    refine ⟨fun pins s σ H R I h' => ?_⟩
    refine thn (h.run pins s σ H _ I h') fun v s1 ⟨x, H1, I1, r1, q1⟩ => ?_
    rcases q1 with ⟨a, e, ⟨xs, hq⟩, q⟩ | ⟨a, e, ⟨xs, hq⟩, q⟩ | ⟨z, e, q⟩
    · subst e
      cases r1
      obtain ⟨its, rv, p, hz⟩ := I1.list hq
      refine wpAny_pyIter_list p.isList ?_
      refine ⟨s1.heap.objs.size, [s1.heap.objs.size], _, _, H1, rfl, I1.kept (t' := s1.toks) fun b o e => Heap.get?_push_of_some _ e, turn_list a _, ⟨_, Heap.get?_push_size _ rfl, rfl, rfl⟩, fun b hb => ?_, q⟩
      have e : b = s1.heap.objs.size := by simpa using hb
      subst e
      exact I1.fpOk (Nat.le_refl _) (I1.hok.fresh (Nat.le_refl _))
    · subst e
      cases r1
      obtain ⟨its, rv, p, hz⟩ := I1.tuple hq
      refine wpAny_pyIter_tuple (show s1.heap.IsTuple a its.toArray from p) ?_
      refine ⟨s1.heap.objs.size, [s1.heap.objs.size], _, _, H1, rfl, I1.kept (t' := s1.toks) fun b o e => Heap.get?_push_of_some _ e, turn_tuple a _, ⟨_, Heap.get?_push_size _ rfl, rfl, rfl⟩, fun b hb => ?_, q⟩
      have e : b = s1.heap.objs.size := by simpa using hb
      subst e
      exact I1.fpOk (Nat.le_refl _) (I1.hok.fresh (Nat.le_refl _))
    · subst e
      obtain ⟨t, rfl⟩ := r1
      cases ha : z.cps.all (· < 128)
      · exact wpAny_pyIter_wide ha (pi_one (tk := s1.toks) I1 _ (turn_str _ z t "str_iterator" (.inr rfl)) ⟨_, Heap.get?_push_size _ rfl, rfl, rfl⟩ q)
      · exact wpAny_pyIter_ascii ha (pi_one (tk := s1.toks) I1 _ (turn_str _ z t "str_ascii_iterator" (.inl rfl)) ⟨_, Heap.get?_push_size _ rfl, rfl, rfl⟩ q)
  refine PIw key fun σ H R' ⟨pn, G, n, δ, q, e, R, hf, hQ, hX⟩ => ⟨pn, G, n, δ, _, e, R, hf, fun G1 v d n1 H1 A1 R1 i1 h1 => ?_, hX⟩
  rw [hK]
  cases d with
  | lst xs =>
    simp only [Is] at i1
    obtain ⟨p, vs, rfl, h2, h3⟩ := i1
    exact .inl ⟨p, rfl, ⟨vs, SqL.of (R1.ex _ _ h2)⟩, hQ G1 xs n1 H1 _ A1 R1 (yields_list h2 h3) h1⟩
  | tup xs =>
    simp only [Is] at i1
    obtain ⟨p, vs, rfl, h2, h3⟩ := i1
    exact .inr (.inl ⟨p, rfl, ⟨vs, R1.ex.seqT h2⟩, hQ G1 xs n1 H1 _ A1 R1 (yields_tup h2 h3) h1⟩)
  | str l =>
    simp only [Is] at i1
    exact .inr (.inr ⟨S l, i1, hQ G1 _ n1 H1 _ A1 R1 yields_str h1⟩)
  | _ => exact h1.elim
def diRange1 (f : DTA) : DTI := fun δ n q e => f δ n (fun xs n1 => match xs with | [.int j] => j < 2 ^ 62 ∧ -(2 ^ 62) ≤ j ∧ q (rangeD 0 j.toNat) n1 | _ => False) e
def diRange2 (f : DTA) : DTI := fun δ n q e => f δ n (fun xs n1 => match xs with | [.int i, .int j] => (-(2 ^ 62) ≤ i ∧ i < 2 ^ 62 ∧ -(2 ^ 62) ≤ j ∧ j < 2 ^ 62) ∧ q (rangeD i (j - i).toNat) n1 | _ => False) e
theorem IsL.ints {M : LK} {G : Hp} : ∀ {is : List Int} {vs : List V}, IsL M G vs (is.map .int) → vs = is.map .int
  | [], [], _ => rfl
  | i :: is, v :: vs, h => by
    simp only [List.map_cons, IsL, Is] at h ⊢
    rw [h.1, IsL.ints h.2]
  | [], _ :: _, h => by simp only [List.map_nil, IsL] at h
  | _ :: _, [], h => by simp only [List.map_cons, IsL] at h
theorem di_range1 {tg : Expr} {e : Expr} {f : DTA} (h : PI X tg e (iRng1 (liftA M W f))) : PI X tg e (liftI M W (diRange1 f)) :=
  PIw h fun σ H R' ⟨pn, G, n, δ, q, e, R, hf, hQ, hX⟩ => by
    refine ⟨pn, G, n, δ, _, e, R, hf, fun G1 vs ds n1 H1 A1 R1 i1 h1 => ?_, hX⟩
    match ds, h1 with
    | [.int j], h1 =>
      obtain rfl := IsL.ints (is := [j]) i1
      exact ⟨j, rfl, h1.2.1, h1.1, hQ G1 _ n1 H1 _ A1 R1 yields_range h1.2.2⟩
theorem di_range2 {tg : Expr} {e : Expr} {f : DTA} (h : PI X tg e (iRng2 (liftA M W f))) : PI X tg e (liftI M W (diRange2 f)) :=
  PIw h fun σ H R' ⟨pn, G, n, δ, q, e, R, hf, hQ, hX⟩ => by
    refine ⟨pn, G, n, δ, _, e, R, hf, fun G1 vs ds n1 H1 A1 R1 i1 h1 => ?_, hX⟩
    match ds, h1 with
    | [.int i, .int j], h1 =>
      obtain rfl := IsL.ints (is := [i, j]) i1
      exact ⟨i, j, rfl, h1.1, hQ G1 _ n1 H1 _ A1 R1 yields_range h1.2⟩
def diEnum (f : DTA) : DTI := fun δ n q e => f δ n (fun xs n1 => match xs with | [.lst ds] => q (ds.zipIdx.map fun p => .tup [.int (p.2 : Nat), p.1]) n1 | _ => False) e
theorem di_enum {tg : Expr} {e : Expr} {f : DTA} (h : PI X tg e (iEnum M.L.K (liftA M W f))) : PI X tg e (liftI M W (diEnum f)) :=
  PIw h fun σ H R' ⟨pn, G, n, δ, q, e, R, hf, hQ, hX⟩ => by
    refine ⟨pn, G, n, δ, _, e, R, hf, fun G1 vs ds n1 H1 A1 R1 i1 h1 => ?_, hX⟩
    match ds, vs, i1, h1 with
    | [.lst xs], [v], i1, h1 =>
      simp only [IsL, Is] at i1
      obtain ⟨⟨p, vs, rfl, h2, h3⟩, _⟩ := i1
      exact ⟨p, vs, rfl, SqL.of (R1.ex _ _ h2), hQ G1 _ n1 H1 _ A1 R1 (yields_enum h2 h3) h1⟩
    | [.lst xs], [], i1, _ => simp only [IsL] at i1
    | [.lst xs], _ :: _ :: _, i1, _ => simp only [IsL, and_false] at i1
def diZip (f : DTA) : DTI := fun δ n q e => f δ n (fun xs n1 => match xs with | [.lst ds, .lst es] => q ((ds.zip es).map fun p => .tup [p.1, p.2]) n1 | _ => False) e
theorem di_zip {tg : Expr} {e : Expr} {f : DTA} (h : PI X tg e (iZip M.L.K (liftA M W f))) : PI X tg e (liftI M W (diZip f)) :=
  PIw h fun σ H R' ⟨pn, G, n, δ, q, e, R, hf, hQ, hX⟩ => by
    refine ⟨pn, G, n, δ, _, e, R, hf, fun G1 vs ds n1 H1 A1 R1 i1 h1 => ?_, hX⟩
    match ds, vs, i1, h1 with
    | [.lst xs, .lst ys], [v, u], i1, h1 =>
      simp only [IsL, Is] at i1
      obtain ⟨⟨p, vs, rfl, h2, h3⟩, ⟨p', vs', rfl, h2', h3'⟩, _⟩ := i1
      exact ⟨p, p', vs, vs', rfl, SqL.of (R1.ex _ _ h2), SqL.of (R1.ex _ _ h2'), hQ G1 _ n1 H1 _ A1 R1 (yields_zip h2 h3 h2' h3') h1⟩
    | [.lst xs, .lst ys], [], i1, _ => simp only [IsL] at i1
    | [.lst xs, .lst ys], [_], i1, _ => simp only [IsL, and_false] at i1
    | [.lst xs, .lst ys], _ :: _ :: _ :: _, i1, _ => simp only [IsL, and_false] at i1
end
end DL

set_option Elab.async false
set_option linter.all false
set_option maxRecDepth 100000
set_option maxHeartbeats 4000000
set_option autoImplicit false
/-! The data layer: comprehensions, defs, operations by values. -/
namespace DL
open PySem PySem.Spec PyProof.Rows L2
section
variable {X : Cx} {M : LK} {W : WX} {pn : Addr} {G G1 H H1 : Hp} {n : NS} {σ : L2.St} {δ : DEnv}
def noX : DX := fun _ _ _ _ _ => False
def W0 : WX := fun _ _ _ _ => False
theorem XEnd.no {e : DX} (h : ∀ δ C ns ds n, ¬ e δ C ns ds n) : XEnd M W pn G σ δ H e := fun G' C a ns ds n' H' A' R' hx q => (h _ C ns ds n' q).elim
theorem noX_no : ∀ δ C ns ds n, ¬ noX δ C ns ds n := fun _ _ _ _ _ h => h
theorem Rep.wipe {vs : List Nat} (R : Rep M pn G n σ δ H) : Rep M pn G n (L2.wipe σ vs) (wipeD δ vs) H := by
  refine ⟨R.ex, R.pen, R.tab, R.nt, R.pe, R.mu, ?_⟩
  have E := R.env
  clear R
  induction vs with
  | nil => exact E
  | cons v vs ih =>
    refine ⟨by unfold L2.wipe wipeD; simp [ih.len], fun i d e => ?_⟩
    unfold wipeD at e
    unfold L2.wipe
    by_cases hv : v = i
    · subst hv
      have := getO e
      cases this
    · rw [List.getElem?_set_ne hv] at e ⊢
      exact ih.at_ i d e
theorem Rep.env_of {σ' : L2.St} {δ' : DEnv} (R : Rep M pn G n σ δ H) (E : EnvIs M G σ' δ') : Rep M pn G n σ' δ' H := ⟨R.ex, R.pen, R.tab, R.nt, R.pe, R.mu, E⟩
theorem wipe_wipe {σ : L2.St} {ws : List Nat} : ∀ {vs : List Nat}, (∀ v ∈ vs, v ∈ ws) → L2.wipe (L2.wipe σ vs) ws = L2.wipe σ ws
  | [], _ => rfl
  | v :: vs, h => by
    rw [show L2.wipe σ (v :: vs) = (L2.wipe σ vs).set v none from rfl, wipe_set (h v List.mem_cons_self), wipe_wipe fun u hu => h u (List.mem_cons_of_mem _ hu)]
def dYes : DTT := fun _ n q _ => q true n
theorem PTsw {X : Cx} {e : List Expr} {t t' : TT} (h : PTs X e t) (w : ∀ σ H Q, t' σ H Q → t σ H Q) : PTs X e t' := ⟨fun pins s σ H Q I q => h.run pins s σ H Q I (w _ _ _ q)⟩
theorem dts_nil : PTs X [] (liftT M W dYes) := PTsw pts_nil fun σ H Q ⟨pn, G, n, δ, q, e, R, hf, hQ, hX⟩ => hQ G true n H Adv.refl R hf
theorem dts_one {c : Expr} {f : DTT} (h : PT X c (liftT M W f)) : PTs X [c] (liftT M W f) := pts_one h
/-- m' holds all that m holds -/
def Mle (m m' : Addr → Option MO) : Prop := ∀ a o, m a = some o → m' a = some o
/-- [te for g in ds if tt]; what is made so far stands among the objects that may change -/
def dLcL (g : DTG) (tt : DTT) (te : DTE) (vs : List Nat) : List D → List D → DEnv → NS → (List D → NS → Prop) → Prop
  | [], acc, _, n, q => q acc n
  | d :: ds, acc, δ, n, q => acc.length < 100000 ∧ ∀ m, Mle n.mu m → g d (wipeD δ vs) ⟨n.at_, m⟩ fun δ2 n0 => tt δ2 n0 (fun b n1 => match b with
    | true => te δ2 n1 (fun y n2 => n2.mu = m ∧ dLcL g tt te vs ds (acc ++ [y]) δ ⟨n2.at_, n.mu⟩ q) noX
    | false => n1.mu = m ∧ dLcL g tt te vs ds acc δ ⟨n1.at_, n.mu⟩ q) noX
def dLc (it : DTI) (g : DTG) (tt : DTT) (te : DTE) (vs : List Nat) : DTE := fun δ n q e => it δ n (fun ds n1 => dLcL g tt te vs ds [] δ n1 fun ys n2 => q (.lst ys) n2) e
theorem liftE_lc {it : DTI} {g : DTG} {tt : DTT} {te : DTE} {vs : List Nat} (σ : L2.St) (H : Hp) (Q : VK) (h : liftE M W (dLc it g tt te vs) σ H Q) : tLc (liftI M W it) (liftG M vs g) (liftT M W0 tt) (liftE M W0 te) vs σ H Q := by
  obtain ⟨pn, G, n, δ, q, e, R, hf, hQ, hX⟩ := h
  refine ⟨pn, G, n, δ, _, e, R, hf, fun G1 ds n1 H1 J A1 R1 Y h1 => ?_, hX⟩
  intro Dd hD
  have md := R1.munone hD
  obtain ⟨RD, AD⟩ := R1.mak (o := .lst []) (u := .lst []) hD (by simp only [MIs, IsL])
  refine ⟨fun i m H' => m = ds.length - i ∧ i ≤ ds.length ∧ ∃ (G' : Hp) (n' : NS) (acc : List D), n'.mu Dd = none ∧ Rep M pn G' ⟨n'.at_, mup n'.mu Dd (some (.lst acc))⟩ σ δ H' ∧ Adv pn G1 H1 G' H' ∧ dLcL g tt te vs (ds.drop i) acc δ n' fun ys n2 => q (.lst ys) n2,
    ⟨ds.length, rfl, Nat.zero_le _, G1, n1, [], md, RD, AD, h1⟩, ?_⟩
  rintro i m H2 ⟨rfl, hi, G2, n2, acc, md2, R2, A2, h2⟩
  by_cases hlt : i < ds.length
  · obtain ⟨d, hd⟩ : ∃ d, ds[i]? = some d := ⟨ds[i], by simp [hlt]⟩
    have e1 : ds.drop i = d :: ds.drop (i + 1) := by
      rw [List.drop_eq_getElem_cons hlt]
      congr 1
      rw [List.getElem?_eq_getElem hlt] at hd
      exact Option.some.inj hd
    rw [e1] at h2
    obtain ⟨hlen, h2⟩ := h2
    obtain ⟨g1, g2⟩ := Y.go i G2 H2 _ σ δ A2.ge R2 d hd
    refine .inr ⟨g1, fun H' => ∃ (G' : Hp) (n' : NS) (acc : List D), n'.mu Dd = none ∧ Rep M pn G' ⟨n'.at_, mup n'.mu Dd (some (.lst acc))⟩ σ δ H' ∧ Adv pn G1 H1 G' H' ∧ dLcL g tt te vs (ds.drop (i + 1)) acc δ n' fun ys n2 => q (.lst ys) n2,
      fun H' h' => ⟨ds.length - (i + 1), by omega, rfl, hlt, h'⟩, fun x H3 hy => ?_⟩
    obtain ⟨G3, A3, R3, i3⟩ := g2 x H3 hy
    have h2 := h2 (mup n2.mu Dd (some (.lst acc))) (fun a o e => by rw [mup_ne (fun z => by rw [z, md2] at e; cases e)]; exact e)
    refine ⟨pn, G3, _, wipeD δ vs, d, _, R3.wipe, i3, h2, fun G4 σ4 δ4 n4 H4 A4 R4 w4 h4 => ?_⟩
    refine ⟨w4.trans (wipe_wipe fun _ h => h), pn, G4, n4, δ4, _, noX, R4, h4, fun G5 b n5 H5 A5 R5 h5 => ?_, XEnd.no noX_no⟩
    have A25 := R2.tr A3 (R3.tr A4 (R4.tr A5 Adv.refl))
    cases b with
    | true =>
      refine iteT ⟨pn, G5, n5, δ4, _, noX, R5, h5, fun G6 v y n6 H6 A6 R6 i6 h6 => ?_, XEnd.no noX_no⟩
      have A26 := R2.tr A25 A6
      obtain ⟨em, h6⟩ := h6
      have R6' : Rep M pn G6 n6 σ δ H6 := R6.env_of (R2.env.up A26)
      have m6 : n6.mu Dd = some (.lst acc) := by rw [em, mup_same]
      obtain ⟨u, hu, iu, _, _⟩ := R6'.mu Dd _ m6
      cases u <;> simp only [MIs] at iu
      rename_i us
      refine ⟨us, hu, by rw [iu.length]; exact Nat.lt_of_lt_of_le hlen (le_line (Nat.le_refl _)), G6, ⟨n6.at_, n2.mu⟩, acc ++ [y], md2, ?_, (R1.tr A2 A26).trans ⟨Ext.refl _⟩, h6⟩
      have := R6'.chg (o := .lst (us ++ [v])) (u := .lst (acc ++ [y])) m6 (by simp only [MIs]; exact IsL.append iu (by simp only [IsL]; exact ⟨i6, trivial⟩))
      rw [em, mup_mup] at this
      exact this
    | false =>
      obtain ⟨em, h5⟩ := h5
      have R5' : Rep M pn G5 n5 σ δ H5 := R5.env_of (R2.env.up A25)
      refine iteF ⟨G5, ⟨n5.at_, n2.mu⟩, acc, md2, ?_, R1.tr A2 A25, h5⟩
      rw [← em]
      exact R5'
  · have e : i = ds.length := by omega
    subst e
    rw [List.drop_length] at h2
    refine .inl ⟨Y.stop G2 H2 _ σ δ A2.ge R2, ?_⟩
    have A02 := R.tr A1 A2
    obtain ⟨G3, R3, A3, i3⟩ := frz_is R2 (a := Dd) (o := .lst acc) mup_same rfl
    have R3' : Rep M pn G3 n2 σ δ H2 := by
      have := R3
      simp only [mup_mup, mup_back md2] at this
      exact this
    exact hQ G3 (.ref Dd) (.lst acc) n2 H2 (A02.trans A3) R3' i3 h2
theorem dp_lc {ex : Expr} {it : DTI} {g : DTG} {tt : DTT} {te : DTE} {vs : List Nat} (h : PE X ex (tLc (liftI M W it) (liftG M vs g) (liftT M W0 tt) (liftE M W0 te) vs)) : PE X ex (liftE M W (dLc it g tt te vs)) := PEw h liftE_lc
/-- y = [..] -/
theorem ds_setLc {st : Stmt} {it : DTI} {g : DTG} {tt : DTT} {te : DTE} {vs : List Nat} {i : Nat} (h : PS X st (tAsg (tLc (liftI M W it) (liftG M vs g) (liftT M W0 tt) (liftE M W0 te) vs) (gName i))) : PS X st (liftS M W (dAsg (dLc it g tt te vs) (dgName i))) :=
  PSw h fun D₀ σ H hl => liftE_lc σ H _ (liftS_set D₀ σ H hl)
end
/-! ### defs -/
/-- a def's promise over trees: arguments, draws so far, what is wanted of a value, of an exception -/
abbrev DY := Addr → List Str → List D → NS → Prop
abbrev DSp := List D → NS → (D → NS → Prop) → DY → Prop
def lift (M : LK) (k : Nat) (s : DSp) : Sp := fun vs H Q E => ∃ pn G n ds q e, Rep M pn G n [] [] H ∧ IsL M G vs ds ∧ ds.length = k ∧ s ds n q e ∧
  (∀ G' v d n' H', Adv pn G H G' H' → Rep M pn G' n' [] [] H' → Is M G' v d → q d n' → Q v H') ∧ (∀ G' C a ns xs n' H', Adv pn G H G' H' → Rep M pn G' n' [] [] H' → XIs M G' a ns xs → e C ns xs n' → E (.ref C) (some a) H')
def startD (N : List Str) (ds : List D) : DEnv := ds.map some ++ List.replicate (N.length - ds.length) none
section
variable {X : Cx} {M : LK} {W : WX} {pn : Addr} {G G1 H H1 : Hp} {n : NS} {σ : L2.St} {δ : DEnv}
theorem Rep.bare (R : Rep M pn G n σ δ H) : Rep M pn G n [] [] H := ⟨R.ex, R.pen, R.tab, R.nt, R.pe, R.mu, ⟨rfl, fun i d e => by simp at e⟩⟩
theorem Rep.back {G' H' : Hp} {n' : NS} (R : Rep M pn G n σ δ H) (R' : Rep M pn G' n' [] [] H') (A : Adv pn G H G' H') : Rep M pn G' n' σ δ H' := ⟨R'.ex, R'.pen, R'.tab, R'.nt, R'.pe, R'.mu, R.env.up A⟩
theorem Rep.start {N : List Str} {vs : List V} {ds : List D} (R : Rep M pn G n [] [] H) (h : IsL M G vs ds) : Rep M pn G n (L2.start N vs) (startD N ds) H := by
  refine ⟨R.ex, R.pen, R.tab, R.nt, R.pe, R.mu, ⟨?_, fun i d e => ?_⟩⟩
  · unfold L2.start startD; simp [h.length]
  · unfold startD at e
    unfold L2.start
    by_cases hi : i < ds.length
    · rw [List.getElem?_append_left (by simpa using hi), List.getElem?_map] at e
      cases ed : ds[i]? with
      | none => rw [ed] at e; cases e
      | some d' =>
        rw [ed] at e
        cases e
        obtain ⟨v, h1, h2⟩ := IsL.get h ed
        refine ⟨v, ?_, h2⟩
        rw [List.getElem?_append_left (by simpa [h.length] using hi), List.getElem?_map, h1]
        rfl
    · rw [List.getElem?_append_right (by simpa using hi), List.getElem?_replicate] at e
      split at e <;> cases e
theorem lift_len {k : Nat} {s : DSp} {vs : List V} {H : Hp} {Q : VK} {E : XK} (h : lift M k s vs H Q E) : vs.length = k := by
  obtain ⟨pn, G, n, ds, q, e, R, hi, hk, _⟩ := h
  rw [hi.length, hk]
/-- THE RULE for a def -/
theorem dfn {P : Program} {w : World} {mg : Str → Option Value} {base : Heap} {x qual : Str} {st : Stmt} {f : Addr} {fd : FuncData} {N ps : List Str} {k : Nat} {s : DSp} (F : Fun M.L.K x qual st f fd) (S : FnScope N ps (defScope st)) (t : DTS)
    (hb : ∀ (cdv : Value) (A : Around) (outer : List Env) (s0 : Shared) (H : Hp) (E : XK), Room k (A.deeper (envOfC qual (defScope st) s0.heap.objs.size f cdv)) →
      PSs (cxOf (L2.CX P w) P w M.L.K mg base N qual (defScope st) f cdv A outer s0 H E) (defBody st) (liftS M (fun cls d _ H' => E cls d H') t))
    (hs : ∀ ds n q e, ds.length = ps.length → s ds n q e → t { nx := fun _ n' => q .non n', rt := q, ex := fun _ => e } (startD N ds) n) :
    FnOk P w M.L.K mg base (L2.CX P w) (k + 1) f fd ps (lift M ps.length s) := by
  refine F.okX S (fun vs H Q E h => lift_len h) (fun cdv A outer s0 H vs Q E hr h => ⟨_, hb cdv A outer s0 H E hr, ?_⟩)
  obtain ⟨pn, G, n, ds, q, e, R, hi, hk, hsp, hQ, hE⟩ := h
  refine ⟨pn, G, n, _, _, R.start hi, hs ds n q e hk hsp, ⟨fun G' σ' δ' n' H' A' R' h' => hQ G' .non .non n' H' A' R'.bare (by simp only [Is]) h', fun G' σ' δ' v d n' H' A' R' i' h' => hQ G' v d n' H' A' R'.bare i' h', fun G' σ' δ' n' H' A' R' h' => h'.elim, fun G' σ' δ' n' H' A' R' h' => h'.elim,
    fun G' σ' δ' C a ns xs n' H' A' R' x' h' => hE G' C a ns xs n' H' A' R'.bare x' h'⟩⟩
/-- a call of a def -/
def dCall (k : Nat) (s : DSp) (dds : List D) (f : DTA) : DTE := fun δ n q e => f δ n (fun xs n1 => (xs ++ dds).length = k ∧ s (xs ++ dds) n1 q (e δ)) e
theorem dp_call {ex : Expr} {k : Nat} {s : DSp} {dvs : List V} {dds : List D} {f : DTA} (h : PE X ex (tCallSD (lift M k s) dvs (fun σ cls d H' => W cls d σ H') (liftA M W f))) (hd : ∀ G, IsL M G dvs dds) : PE X ex (liftE M W (dCall k s dds f)) :=
  PEw h fun σ H Q ⟨pn, G, n, δ, q, e, R, hf, hQ, hX⟩ => by
    refine ⟨pn, G, n, δ, _, e, R, hf, fun G1 vs ds n1 H1 A1 R1 i1 h1 => ?_, hX⟩
    refine ⟨pn, G1, n1, ds ++ dds, q, e δ, R1.bare, IsL.append i1 (hd G1), h1.1, h1.2, fun G2 v d n2 H2 A2 R2 i2 h2 => hQ G2 v d n2 H2 (R.tr A1 A2) (R1.back R2 A2) i2 h2, fun G2 C a ns xs n2 H2 A2 R2 x2 h2 => hX G2 C a ns xs n2 H2 (R.tr A1 A2) (R1.back R2 A2) x2 h2⟩
end
end DL

set_option Elab.async false
set_option linter.all false
set_option maxRecDepth 100000
set_option maxHeartbeats 4000000
set_option autoImplicit false
/-! list(text): a new list of its signs. -/
namespace LS
open PySem PySem.W PySem.Calls PyProof.Rows PyProof.V PySem.Spec
section
variable {prog : Program} {w : World} {A : Around} {E : Value → Shared → Prop} {s : Shared} {x : Str} {t : Tok}
theorem hint_str {Q : Bool → Shared → Prop} (h : Q false s) : wpAny (model prog w) A (Builtin.List.listLengthHint (.str x t)) Q E s := by
  have hT : s.TypeIs (.str x t) "str" := typeIs_str s x t
  unfold Builtin.List.listLengthHint
  refine wpAny_bind (wpAny_specialOf hT PySem.F.slot_str_len.lookup ?_)
  generalize hid : ("str.__len__" : String) = id0
  wp_delta
  rw [show splitId id0 = some ("str", "__len__") from by subst hid; decide +kernel]
  subst hid
  refine wpAny_bind (wpAny_isInstance (T := "str") (b := true) hT (by rw [isSubtype_type]; kernel_rfl) ?_)
  refine wpAny_ite_split (fun hab => absurd hab (by decide)) (fun _ => ?_)
  refine wpAny_ite_split (fun _ => ?_) (fun hab => absurd (by decide +kernel) hab)
  refine wpAny_bind (wpAny_typeOf hT ?_)
  exact wpAny_pure h
theorem extend_str {R : Result → Shared → Prop} (hh : A.handled = none) (S : Addr) (res : Value) (c₀ : Nat) (hS : s.heap.get? S = some { cls := .type "list", data := .seq #[] c₀ })
    (hR : ∀ h' tk acc' c', (∀ b o, b ≠ S → s.heap.get? b = some o → h'.get? b = some o) → h'.get? S = some { cls := .type "list", dict := none, data := .seq acc' c', slots := #[] } → ItemsOf (SignAt x) acc' x.cps.size → R (.ok (.ret res)) { s with heap := h', toks := tk }) (hn : x.cps.size ≤ sizeLine) :
    wpAny (model prog w) A.in1 (Builtin.List.listExtendWith (.ref S) (.str x t) res)
      (fun fin s' => match fin with | .done f => R (.ok f) s' | .again c' => c'.quiet = true ∧ codeAny (model prog w) A c' R s') (fun e s' => R (.error e) s') s := by
  have hSI : S ≠ s.heap.objs.size := Nat.ne_of_lt (Heap.lt_size hS)
  have hSf : S ∉ [s.heap.objs.size] := by simp only [List.mem_cons, List.not_mem_nil, or_false]; exact hSI
  unfold Builtin.List.listExtendWith
  refine wpAny_bind (wpAny_typeOf (T := "str") (typeIs_str s x t) ?_)
  have h1 : Builtin.List.listSameRef (.ref S) (.str x t) = false := rfl
  have h2 : (Value.type "str" == Value.type "list") = false := by decide
  have h3 : (Value.type "str" == Value.type "tuple") = false := by decide
  simp only [h1, h2, h3, Bool.or_false, Bool.false_eq_true, if_false]
  refine wpAny_bind (wpAny_pyIter_str fun oI St W st => ?_)
  have key : ∀ (h : Heap) (c₁ tk : Nat), St 0 h → (∀ b o, b ≠ S → s.heap.get? b = some o → h.get? b = some o) →
      h.get? S = some { cls := .type "list", data := .seq #[] c₁ } → codeAny (model prog w) A (.builtin "list.extend.loop" ⟨[.ref S, .ref s.heap.objs.size, res], []⟩) R { s with heap := h, toks := tk } := by
    intro h c₁ tk hst hk hS₁
    refine codeAny_extend_loopS (W A.in1 hh).toS hn S hSf res x.cps.size 0 _ #[] c₁ rfl (Nat.zero_le _) hst hS₁ (ItemsOf.nil _) fun s' acc' c' hm hS' hacc => ?_
    rw [Moved.eq_with hm]
    refine hR s'.heap s'.toks acc' c' (fun b o hb e => hm.heap b o (fun hmem => ?_) (hk b o hb e)) hS' hacc
    rcases List.mem_cons.mp hmem with e' | hmem
    · exact hb e'
    · exact absurd (Heap.lt_size e) (by rw [List.mem_singleton.mp hmem]; exact Nat.lt_irrefl _)
  have hS₁ := Heap.get?_push_of_some oI hS
  refine wpAny_bind (wpAny_holding (hint_str ?_))
  refine wpAny_ite_split (fun hab => absurd hab (by decide)) (fun _ => wpAny_pure ⟨plainId_quiet PySem.F.plain_extend_loop _, key _ c₀ _ st (fun b o _ e => Heap.get?_push_of_some _ e) hS₁⟩)
theorem init_str {R : Result → Shared → Prop} (hh : A.handled = none) (S : Addr) (hS : s.heap.get? S = some { cls := .type "list", data := .seq #[] })
    (hR : ∀ h' tk acc' c', (∀ b o, b ≠ S → s.heap.get? b = some o → h'.get? b = some o) → h'.get? S = some { cls := .type "list", dict := none, data := .seq acc' c', slots := #[] } → ItemsOf (SignAt x) acc' x.cps.size → R (.ok (.ret .none)) { s with heap := h', toks := tk }) (hn : x.cps.size ≤ sizeLine) :
    wpAny (model prog w) A.in1 (Builtin.«list.__init__» ⟨[.ref S, .str x t], []⟩)
      (fun fin s' => match fin with | .done f => R (.ok f) s' | .again c' => c'.quiet = true ∧ codeAny (model prog w) A c' R s') (fun e s' => R (.error e) s') s := by
  show wpAny _ _ (do let old ← Builtin.List.listItems (.ref S); Builtin.List.listUpdate (.ref S) (fun _ => #[]); letGo old.toList.reverse; Builtin.List.listExtendWith (.ref S) (.str x t) .none) _ _ s
  refine wpAny_bind ?_
  unfold Builtin.List.listItems
  refine wpAny_bind (wpAny_seqItems hS rfl (wpAny_pure ?_))
  show wpAny _ _ (updateSeq S (fun _ => #[]) >>= fun _ => letGo (#[] : Array Value).toList.reverse >>= fun _ => Builtin.List.listExtendWith (.ref S) (.str x t) .none) _ _ s
  refine wpAny_bind (wpAny_updateSeq hS rfl ?_)
  have hS₂ := Heap.get?_update_self (Obj.mapSeq (fun _ => (#[] : Array Value))) hS rfl
  have oth : ∀ b o, b ≠ S → s.heap.get? b = some o → (s.heap.update S (Obj.mapSeq (fun _ => (#[] : Array Value)))).get? b = some o :=
    fun b o hb e => (Heap.get?_update_other _ _ (Ne.symm hb)).trans e
  refine wpAny_bind (wpAny_letGo ?_)
  refine extend_str hh S .none _ hS₂ (fun h' tk acc' c' hk hS' hacc => ?_) hn
  exact hR h' tk acc' c' (fun b o hb e => hk b o hb (oth b o hb e)) hS' hacc
theorem call_str {Q : Value → Shared → Prop} (hh : A.handled = none) (hn : x.cps.size ≤ sizeLine)
    (hQ : ∀ h' tk acc' c', (∀ b o, s.heap.get? b = some o → h'.get? b = some o) → h'.get? s.heap.objs.size = some { cls := .type "list", dict := none, data := .seq acc' c', slots := #[] } → ItemsOf (SignAt x) acc' x.cps.size → Q (.ref s.heap.objs.size) { s with heap := h', toks := tk }) :
    wpAny (model prog w) A (call (.type "list") [.str x t]) Q E s := by
  refine callType_codes (Q₁ := fun obj s₁ => obj = .ref s.heap.objs.size ∧ s₁ = { s with heap := s.heap.push { cls := .type "list", data := .seq #[] } }) PySem.F.called_list (PySem.F.typeCall_list_1 _) PySem.F.entry_list_init
    (code_list_new _ ⟨rfl, rfl⟩) fun obj s₁ h₁ => ?_
  obtain ⟨rfl, rfl⟩ := h₁
  have hS : (s.heap.push { cls := .type "list", data := .seq #[] }).get? s.heap.objs.size = some { cls := .type "list", data := .seq #[] } := Heap.get?_push_size _ rfl
  refine ⟨⟨_, hS, rfl⟩, PySem.F.args_list_init_2 _ _, init_str (A := A.in1) hh _ hS (fun h' tk acc' c' hk hS' hacc => ?_) hn⟩
  exact ⟨rfl, hQ h' tk acc' c' (fun b o e => hk b o (Nat.ne_of_lt (Heap.lt_size e)) (Heap.get?_push_of_some _ e)) hS' hacc⟩
end
end LS
namespace L2
open PySem PySem.Spec PyProof.Rows
theorem vals_signs {x : Str} {acc : Array Value} (h : ItemsOf (SignAt x) acc x.cps.size) : Vals (x.cps.toList.map fun c => V.str ⟨#[c]⟩) acc.toList := by
  have key : ∀ (l : List Nat) (vs : List Value), vs.length = l.length → (∀ (j : Nat) (v : Value), vs[j]? = some v → ∃ (c : Nat) (u : Tok), l[j]? = some c ∧ v = Value.str ⟨#[c]⟩ u) → Vals (l.map fun c => V.str ⟨#[c]⟩) vs := by
    intro l
    induction l with
    | nil =>
      intro vs hl _
      cases vs with
      | nil => exact .nil
      | cons _ _ => cases hl
    | cons c l ih =>
      intro vs hl hv
      cases vs with
      | nil => cases hl
      | cons v vs =>
        obtain ⟨c', u, e1, e2⟩ := hv 0 v rfl
        cases e1
        subst e2
        exact .cons ⟨u, rfl⟩ (ih vs (by simpa using hl) fun j v' e => by simpa using hv (j + 1) v' (by simpa using e))
  refine key _ _ (by rw [Array.length_toList, h.1, Array.length_toList]) fun j v e => ?_
  obtain ⟨c, u, e1, e2⟩ := h.2 j v (by simpa using e)
  exact ⟨c, u, by simpa using e1, e2⟩
theorem call_list_str {X : Cx} (hc : X.calm = true) : CallR X (.type "list") (fun xs H Q => ∃ z : Str, xs = [.str z] ∧ z.length ≤ sizeLine ∧ ∀ l, H l = none → Q (.ref l) (upd H l (.lst (z.cps.toList.map fun c => V.str ⟨#[c]⟩)))) := by
  intro pins s σ H xs us Q I r h
  obtain ⟨z, rfl, hl, q⟩ := h
  obtain ⟨u, rfl, rx⟩ := vals1 r
  obtain ⟨t, rfl⟩ := rx
  refine LS.call_str (I.ok.hd hc) hl fun h' tk acc' c' kp e hacc => ?_
  have r' := vals_signs hacc
  exact ⟨.ref s.heap.objs.size, _, I.laid (t' := tk) kp (Nat.le_refl _) (show ObjOk X.prog X.w _ h' _ (.lst _) from ⟨by rw [List.length_map, Array.length_toList]; exact hl, acc'.toList, c', r', by rw [Array.toArray_toList]; exact e⟩), rfl, q _ (I.hok.fresh (Nat.le_refl _))⟩
end L2

set_option Elab.async false
set_option linter.all false
set_option maxRecDepth 100000
set_option maxHeartbeats 4000000
set_option autoImplicit false
/-! The data layer: operations by values. -/
namespace DL
open PySem PySem.Spec PyProof.Rows L2
abbrev GR2 := D → D → NS → (D → NS → Prop) → Prop
theorem S_len (l : List Nat) : (S l).length = l.length := by simp [S, Str.length]
theorem S_app (a b : List Nat) : S a ++ S b = S (a ++ b) := by
  show Str.mk _ = _
  simp
theorem S_inj {a b : List Nat} : S a = S b ↔ a = b := ⟨fun h => by have := congrArg (fun x : Str => x.cps.toList) h; simpa using this, fun h => by rw [h]⟩
theorem S_cps (a : List Nat) : (S a).cps.toList = a := by simp
section
variable {X : Cx} {M : LK} {W : WX}
/-! ### + -/
def gAdd : GR2 := fun x y n q => match x, y with
  | .int i, .int j => q (.int (i + j)) n
  | .str a, .str b => a.length + b.length ≤ 100000 ∧ q (.str (a ++ b)) n
  | .lst a, .lst b => a.length + b.length ≤ 100000 ∧ q (.lst (a ++ b)) n
  | .tup a, .tup b => a.length + b.length ≤ 100000 ∧ q (.tup (a ++ b)) n
  | _, _ => False
def rAddX (K : Frag) : R2 := fun x y H Q => (((∃ i j, x = V.int i ∧ y = V.int j ∧ Q (.int (i + j)) H) ∨ (∃ i j, x = V.str i ∧ y = V.str j ∧ i.length + j.length ≤ sizeLine ∧ Q (.str (i ++ j)) H)) ∨ rCat x y H Q) ∨ rCatA K x y H Q
theorem op_addX (hK : X.K = M.L.K) : OpR X (binaryOp .Add) (rAddX M.L.K) := hK ▸ OpR.or (OpR.or (OpR.or op_add op_add_str) op_cat) op_catA
theorem IsL.nil_iff {G : Hp} {vs : List V} {ds : List D} (h : IsL M G vs ds) : vs = [] ↔ ds = [] := by
  have e1 := h.length
  constructor
  · intro e
    rw [e] at e1
    exact List.eq_nil_of_length_eq_zero e1.symm
  · intro e
    rw [e] at e1
    exact List.eq_nil_of_length_eq_zero e1
theorem dr_add : DR2 M (rAddX M.L.K) gAdd := by
  intro pn G n σ δ H v u x y q Q R ix iy h k
  unfold gAdd at h
  split at h
  · rename_i i j
    simp only [Is] at ix iy
    exact .inl (.inl (.inl ⟨i, j, ix, iy, k G _ (.int (i + j)) n H Adv.refl R (by simp only [Is]) h⟩))
  · rename_i a b
    simp only [Is] at ix iy
    refine .inl (.inl (.inr ⟨S a, S b, ix, iy, by rw [S_len, S_len]; exact le_line h.1, ?_⟩))
    exact k G _ (.str (a ++ b)) n H Adv.refl R (by simp only [Is]; rw [S_app]) h.2
  · rename_i a b
    simp only [Is] at ix iy
    obtain ⟨p, vs, rfl, h1, h2⟩ := ix
    obtain ⟨p', us, rfl, h3, h4⟩ := iy
    refine .inl (.inr ⟨p, p', vs, us, rfl, rfl, R.ex _ _ h1, R.ex _ _ h3, by rw [h2.length, h4.length]; exact le_line h.1, fun l hl => ?_⟩)
    obtain ⟨R2, A2⟩ := R.lay (o := .lst (vs ++ us)) hl notTbl_lst
    exact k _ _ (.lst (a ++ b)) n _ A2 R2 (by simp only [Is]; exact ⟨l, _, rfl, upd_same, IsL.append (IsL.up A2.ge _ _ h2) (IsL.up A2.ge _ _ h4)⟩) h.2
  · rename_i a b
    have ix' := ix
    have iy' := iy
    simp only [Is] at ix iy
    obtain ⟨p, vs, rfl, h1, h2⟩ := ix
    obtain ⟨p', us, rfl, h3, h4⟩ := iy
    refine .inr ⟨p, p', vs, us, rfl, rfl, R.ex.seqT h1, R.ex.seqT h3, by rw [h2.length, h4.length]; exact le_line h.1, fun e => ?_, fun _ e => ?_, fun _ _ l hl => ?_⟩
    · have e2 := h2.nil_iff.mp e
      subst e2
      exact k G _ (.tup b) n H Adv.refl R iy' h.2
    · have e2 := h4.nil_iff.mp e
      subst e2
      exact k G _ (.tup a) n H Adv.refl R ix' (by simpa using h.2)
    · obtain ⟨R2, A2⟩ := R.lay (o := .tup (vs ++ us)) hl notTbl_tup
      exact k _ _ (.tup (a ++ b)) n _ A2 R2 (by simp only [Is]; exact ⟨l, _, rfl, SqT.of upd_same, IsL.append (IsL.up A2.ge _ _ h2) (IsL.up A2.ge _ _ h4)⟩) h.2
  · exact h.elim
theorem dp_add {a b : Expr} {pos : Pos} {fa fb : DTE} (hK : X.K = M.L.K) (ha : PE X a (liftE M W fa)) (hb : PE X b (liftE M W fb)) : PE X (.BinOp a .Add b pos) (liftE M W (dOp gAdd fa fb)) := dp_op (op_addX hK) dr_add ha hb
/-! ### ints -/
def gI (C : Int → Int → Prop) (g : Int → Int → D) : GR2 := fun x y n q => match x, y with
  | .int i, .int j => C i j ∧ q (g i j) n
  | _, _ => False
theorem dr_I {C C' : Int → Int → Prop} {g : Int → Int → V} {g' : Int → Int → D} (hc : ∀ i j, C' i j → C i j) (hg : ∀ G i j, Is M G (g i j) (g' i j)) : DR2 M (rI C g) (gI C' g') := by
  intro pn G n σ δ H v u x y q Q R ix iy h k
  unfold gI at h
  split at h
  · rename_i i j
    simp only [Is] at ix iy
    exact ⟨i, j, ix, iy, hc i j h.1, k G _ _ n H Adv.refl R (hg G i j) h.2⟩
  · exact h.elim
def gI0 (g : Int → Int → D) : GR2 := fun x y n q => match x, y with
  | .int i, .int j => q (g i j) n
  | _, _ => False
theorem dr_I0 {g : Int → Int → V} {g' : Int → Int → D} (hg : ∀ G i j, Is M G (g i j) (g' i j)) : DR2 M (rI0 g) (gI0 g') := by
  intro pn G n σ δ H v u x y q Q R ix iy h k
  unfold gI0 at h
  split at h
  · rename_i i j
    simp only [Is] at ix iy
    exact ⟨i, j, ix, iy, k G _ _ n H Adv.refl R (hg G i j) h⟩
  · exact h.elim
abbrev gSub : GR2 := gI0 fun i j => .int (i - j)
theorem dp_sub {a b : Expr} {pos : Pos} {fa fb : DTE} (ha : PE X a (liftE M W fa)) (hb : PE X b (liftE M W fb)) : PE X (.BinOp a .Sub b pos) (liftE M W (dOp gSub fa fb)) := dp_op op_sub (dr_I0 fun _ _ _ => by simp only [Is]) ha hb
/-- what * asks: one factor within 64 bits, or both together below a million -/
def MulOk (i j : Int) : Prop := ((-(2 ^ 64) < i ∧ i < 2 ^ 64) ∨ (-(2 ^ 64) < j ∧ j < 2 ^ 64)) ∨ i.natAbs.log2 + j.natAbs.log2 < 1000000
theorem op_mulX : OpR X (binaryOp .Mult) (rI MulOk fun i j => .int (i * j)) := by
  intro pins s σ H x y v u Q I rx ry h
  obtain ⟨i, j, e1, e2, hc, q⟩ := h
  rcases hc with hc | hc
  · exact op_mul pins s σ H x y v u Q I rx ry ⟨i, j, e1, e2, hc, q⟩
  · exact op_mulW pins s σ H x y v u Q I rx ry ⟨i, j, e1, e2, hc, q⟩
abbrev gMul : GR2 := gI MulOk fun i j => .int (i * j)
theorem dp_mul {a b : Expr} {pos : Pos} {fa fb : DTE} (ha : PE X a (liftE M W fa)) (hb : PE X b (liftE M W fb)) : PE X (.BinOp a .Mult b pos) (liftE M W (dOp gMul fa fb)) := dp_op op_mulX (dr_I (fun _ _ h => h) fun _ _ _ => by simp only [Is]) ha hb
def DivOk (i j : Int) : Prop := 0 < j ∧ (j < 1073741824 ∨ j.natAbs.log2 < 9000)
theorem op_divX : OpR X (binaryOp .FloorDiv) (rI DivOk fun i j => .int (i / j)) := by
  intro pins s σ H x y v u Q I rx ry h
  obtain ⟨i, j, e1, e2, hc, q⟩ := h
  rcases hc.2 with h2 | h2
  · exact op_fdiv pins s σ H x y v u Q I rx ry ⟨i, j, e1, e2, ⟨hc.1, h2⟩, q⟩
  · exact op_fdivW pins s σ H x y v u Q I rx ry ⟨i, j, e1, e2, ⟨hc.1, h2⟩, q⟩
abbrev gDiv : GR2 := gI DivOk fun i j => .int (i / j)
theorem dp_div {a b : Expr} {pos : Pos} {fa fb : DTE} (ha : PE X a (liftE M W fa)) (hb : PE X b (liftE M W fb)) : PE X (.BinOp a .FloorDiv b pos) (liftE M W (dOp gDiv fa fb)) := dp_op op_divX (dr_I (fun _ _ h => h) fun _ _ _ => by simp only [Is]) ha hb
abbrev gMod : GR2 := gI (fun _ j => 0 < j) fun i j => .int (i % j)
theorem dp_mod {a b : Expr} {pos : Pos} {fa fb : DTE} (ha : PE X a (liftE M W fa)) (hb : PE X b (liftE M W fb)) : PE X (.BinOp a .Mod b pos) (liftE M W (dOp gMod fa fb)) := dp_op op_mod (dr_I (fun _ _ h => h) fun _ _ _ => by simp only [Is]) ha hb
abbrev gPow : GR2 := gI CPow fun i j => .int (i ^ j.toNat)
theorem dp_pow {a b : Expr} {pos : Pos} {fa fb : DTE} (ha : PE X a (liftE M W fa)) (hb : PE X b (liftE M W fb)) : PE X (.BinOp a .Pow b pos) (liftE M W (dOp gPow fa fb)) := dp_op op_pow (dr_I (fun _ _ h => h) fun _ _ _ => by simp only [Is]) ha hb
def dNeg (f : DTE) : DTE := fun δ n q e => f δ n (fun x n1 => match x with | .int i => q (.int (-i)) n1 | _ => False) e
theorem dp_neg {a : Expr} {pos : Pos} {f : DTE} (ha : PE X a (liftE M W f)) : PE X (.UnaryOp .USub a pos) (liftE M W (dNeg f)) :=
  PEw (pe_un un_neg ha) fun σ H Q ⟨pn, G, n, δ, q, e, R, hf, hQ, hX⟩ => by
    refine ⟨pn, G, n, δ, _, e, R, hf, fun G1 v d n1 H1 A1 R1 i1 h1 => ?_, hX⟩
    cases d with
    | int i =>
      simp only [Is] at i1
      exact ⟨i, i1, hQ G1 _ (.int (-i)) n1 H1 A1 R1 (by simp only [Is]) h1⟩
    | _ => exact h1.elim
/-! ### order -/
def gOrd (gi : Int → Int → Bool) (gs : List Nat → List Nat → Bool) : GR2 := fun x y n q => match x, y with
  | .int i, .int j => q (.bl (gi i j)) n
  | .str a, .str b => q (.bl (gs a b)) n
  | _, _ => False
def rOrd (gi : Int → Int → Bool) (gs : List Nat → List Nat → Bool) : R2 := fun x y H Q => (∃ i j, x = V.int i ∧ y = V.int j ∧ Q (.bl (gi i j)) H) ∨ (∃ i j, x = V.str i ∧ y = V.str j ∧ Q (.bl (gs i.cps.toList j.cps.toList)) H)
theorem dr_ord {gi : Int → Int → Bool} {gs : List Nat → List Nat → Bool} : DR2 M (rOrd gi gs) (gOrd gi gs) := by
  intro pn G n σ δ H v u x y q Q R ix iy h k
  unfold gOrd at h
  split at h
  · rename_i i j
    simp only [Is] at ix iy
    exact .inl ⟨i, j, ix, iy, k G _ (.bl (gi i j)) n H Adv.refl R (by simp only [Is]) h⟩
  · rename_i a b
    simp only [Is] at ix iy
    exact .inr ⟨S a, S b, ix, iy, k G _ (.bl (gs a b)) n H Adv.refl R (by simp only [Is, S_cps]) h⟩
  · exact h.elim
abbrev gLt : GR2 := gOrd (fun i j => decide (i < j)) (fun a b => decide (a < b))
abbrev gLe : GR2 := gOrd (fun i j => decide (i ≤ j)) (fun a b => !decide (b < a))
abbrev gGt : GR2 := gOrd (fun i j => decide (j < i)) (fun a b => decide (b < a))
abbrev gGe : GR2 := gOrd (fun i j => decide (j ≤ i)) (fun a b => !decide (a < b))
theorem op_ltX : OpR X (compareOp .Lt) (rOrd (fun i j => decide (i < j)) (fun a b => decide (a < b))) := OpR.or op_lt op_lt_str
theorem op_leX : OpR X (compareOp .LtE) (rOrd (fun i j => decide (i ≤ j)) (fun a b => !decide (b < a))) := OpR.or op_le op_le_str
theorem op_gtX : OpR X (compareOp .Gt) (rOrd (fun i j => decide (j < i)) (fun a b => decide (b < a))) := OpR.or op_gt op_gt_str
theorem op_geX : OpR X (compareOp .GtE) (rOrd (fun i j => decide (j ≤ i)) (fun a b => !decide (a < b))) := OpR.or op_ge op_ge_str
end
end DL

set_option Elab.async false
set_option linter.all false
set_option maxRecDepth 100000
set_option maxHeartbeats 4000000
set_option autoImplicit false
namespace DL
open PySem PySem.Spec PyProof.Rows L2
section
variable {X : Cx} {M : LK} {W : WX}
/-! ### == -/
mutual
def py : D → Option PyData
  | .non => some .none
  | .bl b => some (.bool b)
  | .int i => some (.int i)
  | .str l => some (.str (S l))
  | .lst xs => (pyL xs).map .list
  | .tup xs => (pyL xs).map .tuple
  | _ => none
def pyL : List D → Option (List PyData)
  | [] => some []
  | d :: ds => match py d, pyL ds with | some a, some b => some (a :: b) | _, _ => none
end
mutual
theorem py_dp {G H : Hp} (hx : Ext G H) : ∀ (d : D) (v : V) (x : PyData), Is M G v d → py d = some x → Dp M.L.K H v x
  | .non, v, x, h, e => by simp only [Is] at h; simp only [py, Option.some.injEq] at e; subst h e; exact .non
  | .bl b, v, x, h, e => by simp only [Is] at h; simp only [py, Option.some.injEq] at e; subst h e; exact .bl b
  | .int i, v, x, h, e => by simp only [Is] at h; simp only [py, Option.some.injEq] at e; subst h e; exact .int i
  | .str l, v, x, h, e => by simp only [Is] at h; simp only [py, Option.some.injEq] at e; subst h e; exact .str _
  | .lst xs, v, x, h, e => by
    simp only [Is] at h
    obtain ⟨p, vs, rfl, h1, h2⟩ := h
    simp only [py, Option.map_eq_some_iff] at e
    obtain ⟨ys, e1, rfl⟩ := e
    exact .lst (SqL.of (hx _ _ h1)) (py_dpL hx xs vs ys h2 e1)
  | .tup xs, v, x, h, e => by
    simp only [Is] at h
    obtain ⟨p, vs, rfl, h1, h2⟩ := h
    simp only [py, Option.map_eq_some_iff] at e
    obtain ⟨ys, e1, rfl⟩ := e
    exact .tup (hx.seqT h1) (py_dpL hx xs vs ys h2 e1)
  | .ty _, _, _, _, e => by simp [py] at e
  | .ref _, _, _, _, e => by simp [py] at e
  | .pen, _, _, _, e => by simp [py] at e
  | .ins _ _ _, _, _, _, e => by simp [py] at e
theorem py_dpL {G H : Hp} (hx : Ext G H) : ∀ (ds : List D) (vs : List V) (xs : List PyData), IsL M G vs ds → pyL ds = some xs → DpAll M.L.K H vs xs
  | [], [], xs, _, e => by simp only [pyL, Option.some.injEq] at e; subst e; exact .nil
  | d :: ds, v :: vs, xs, h, e => by
    simp only [IsL] at h
    simp only [pyL] at e
    cases e1 : py d with
    | none => rw [e1] at e; cases e
    | some a =>
      cases e2 : pyL ds with
      | none => rw [e1, e2] at e; cases e
      | some b =>
        rw [e1, e2] at e
        cases e
        exact .cons (py_dp hx d v a h.1 e1) (py_dpL hx ds vs b h.2 e2)
  | [], _ :: _, _, h, _ => by simp only [IsL] at h
  | _ :: _, [], _, h, _ => by simp only [IsL] at h
end
/-- == of scalars -/
def scEq : D → D → Option Bool
  | .non, .non => some true | .non, .int _ => some false | .int _, .non => some false | .non, .bl _ => some false | .bl _, .non => some false | .non, .str _ => some false | .str _, .non => some false
  | .int a, .int b => some (decide (a = b)) | .bl a, .bl b => some (decide (a = b)) | .str a, .str b => some (decide (a = b))
  | .int _, .str _ => some false | .str _, .int _ => some false | .bl _, .str _ => some false | .str _, .bl _ => some false
  | _, _ => none
theorem scEq_ok {G : Hp} {v u : V} {x y : D} {b : Bool} (h : scEq x y = some b) (ix : Is M G v x) (iy : Is M G u y) : scal v u = true ∧ decide (v = u) = b := by
  cases x <;> cases y <;> simp only [scEq, Option.some.injEq, reduceCtorEq] at h <;> simp only [Is] at ix iy <;> subst ix iy h <;> refine ⟨rfl, ?_⟩ <;> simp
def eqD (x y : D) (k : Bool → Prop) : Prop := match scEq x y with
  | some b => k b
  | none => ∃ a b, py x = some a ∧ py y = some b ∧ SeqAt.shaped a = true ∧ SeqAt.shaped b = true ∧ k (PyData.eqv a b)
def gEq : GR2 := fun x y n q => eqD x y fun b => q (.bl b) n
def gNe : GR2 := fun x y n q => eqD x y fun b => q (.bl (!b)) n
theorem dr_eq : DR2 M (fun x y H Q => rEq x y H Q ∨ rEqD M.L.K x y H Q) gEq := by
  intro pn G n σ δ H v u x y q Q R ix iy h k
  unfold gEq eqD at h
  cases e : scEq x y with
  | some b =>
    rw [e] at h
    obtain ⟨h1, h2⟩ := scEq_ok e ix iy
    exact .inl ⟨h1, k G _ (.bl b) n H Adv.refl R (by simp only [Is]; rw [h2]) h⟩
  | none =>
    rw [e] at h
    obtain ⟨a, b, e1, e2, s1, s2, h⟩ := h
    exact .inr ⟨a, b, py_dp R.ex x v a ix e1, py_dp R.ex y u b iy e2, s1, s2, k G _ (.bl (PyData.eqv a b)) n H Adv.refl R (by simp only [Is]) h⟩
theorem dr_ne : DR2 M (fun x y H Q => rNe x y H Q ∨ rNeD M.L.K x y H Q) gNe := by
  intro pn G n σ δ H v u x y q Q R ix iy h k
  unfold gNe eqD at h
  cases e : scEq x y with
  | some b =>
    rw [e] at h
    obtain ⟨h1, h2⟩ := scEq_ok e ix iy
    exact .inl ⟨h1, k G _ (.bl (!b)) n H Adv.refl R (by simp only [Is]; rw [h2]) h⟩
  | none =>
    rw [e] at h
    obtain ⟨a, b, e1, e2, s1, s2, h⟩ := h
    exact .inr ⟨a, b, py_dp R.ex x v a ix e1, py_dp R.ex y u b iy e2, s1, s2, k G _ (.bl (!PyData.eqv a b)) n H Adv.refl R (by simp only [Is]) h⟩
theorem op_eqX (hK : X.K = M.L.K) (hu : X.A.units + 64 < cLine) : OpR X (compareOp .Eq) (fun x y H Q => rEq x y H Q ∨ rEqD M.L.K x y H Q) := hK ▸ OpR.or op_eq (op_eqD hu)
theorem op_neX (hK : X.K = M.L.K) (hu : X.A.units + 64 < cLine) : OpR X (compareOp .NotEq) (fun x y H Q => rNe x y H Q ∨ rNeD M.L.K x y H Q) := hK ▸ OpR.or op_ne (op_neD hu)
end
end DL

set_option Elab.async false
set_option linter.all false
set_option maxRecDepth 100000
set_option maxHeartbeats 4000000
set_option autoImplicit false
namespace DL
open PySem PySem.Spec PyProof.Rows L2
section
variable {X : Cx} {M : LK} {W : WX}
/-! ### in, is None -/
def flatD : D → Bool
  | .non => true | .bl _ => true | .int _ => true | .str _ => true | _ => false
/-- a flat value -/
def dV : D → V
  | .bl b => .bl b | .int i => .int i | .str l => .str (S l) | _ => .non
theorem dV_ok {G : Hp} {v : V} {d : D} (h : Is M G v d) (hf : flatD d = true) : v = dV d ∧ flatV v = true := by
  cases d <;> simp only [flatD, reduceCtorEq] at hf <;> simp only [Is] at h <;> subst h <;> exact ⟨rfl, rfl⟩
theorem dV_all {G : Hp} : ∀ {ds : List D} {vs : List V}, IsL M G vs ds → ds.all flatD = true → vs = ds.map dV ∧ vs.all flatV = true
  | [], [], _, _ => ⟨rfl, rfl⟩
  | d :: ds, v :: vs, h, hf => by
    simp only [IsL] at h
    rw [List.all_cons, Bool.and_eq_true] at hf
    obtain ⟨e1, e2⟩ := dV_ok h.1 hf.1
    obtain ⟨e3, e4⟩ := dV_all h.2 hf.2
    exact ⟨by rw [e1, e3]; rfl, by rw [List.all_cons, e2, e4]; rfl⟩
  | [], _ :: _, h, _ => by simp only [IsL] at h
  | _ :: _, [], h, _ => by simp only [IsL] at h
/-- y is x, flat ones -/
def eqF (y x : D) : Bool := eqV (dV y) (dV x)
def inD (x y : D) (k : Bool → Prop) : Prop := match x, y with
  | .str [c], .str l => k (decide (c ∈ l))
  | x, .lst ys => flatD x = true ∧ ys.all flatD = true ∧ k (ys.any fun y => eqF y x)
  | x, .tup ys => flatD x = true ∧ ys.all flatD = true ∧ k (ys.any fun y => eqF y x)
  | _, _ => False
def gIn : GR2 := fun x y n q => inD x y fun b => q (.bl b) n
def gNotIn : GR2 := fun x y n q => inD x y fun b => q (.bl (!b)) n
theorem inV_any {x : D} {ys : List D} : inV (dV x) (ys.map dV) = ys.any fun y => eqF y x := by unfold inV eqF; rw [List.any_map]; rfl
theorem dr_in {neg : Bool} : DR2 M (fun x y H Q => (∃ (c : Nat) (z : Str), x = .str ⟨#[c]⟩ ∧ y = .str z ∧ Q (.bl (if neg then !decide (c ∈ z.cps.toList) else decide (c ∈ z.cps.toList))) H) ∨ rIn M.L.K neg x y H Q) (fun x y n q => inD x y fun b => q (.bl (if neg then !b else b)) n) := by
  intro pn G n σ δ H v u x y q Q R ix iy h k
  unfold inD at h
  split at h
  · rename_i c l
    simp only [Is] at ix iy
    exact .inl ⟨c, S l, ix, iy, k G _ (.bl (if neg then !decide (c ∈ l) else decide (c ∈ l))) n H Adv.refl R (by simp only [Is, S_cps]) h⟩
  · rename_i ys _
    obtain ⟨f1, f2, h⟩ := h
    simp only [Is] at iy
    obtain ⟨p, vs, rfl, h1, h2⟩ := iy
    obtain ⟨e1, e2⟩ := dV_ok ix f1
    obtain ⟨e3, e4⟩ := dV_all h2 f2
    refine .inr ⟨p, vs, rfl, .inl (SqL.of (R.ex _ _ h1)), e2, e4, ?_⟩
    rw [e1, e3, inV_any]
    exact k G _ _ n H Adv.refl R (by simp only [Is]) h
  · rename_i ys _
    obtain ⟨f1, f2, h⟩ := h
    simp only [Is] at iy
    obtain ⟨p, vs, rfl, h1, h2⟩ := iy
    obtain ⟨e1, e2⟩ := dV_ok ix f1
    obtain ⟨e3, e4⟩ := dV_all h2 f2
    refine .inr ⟨p, vs, rfl, .inr (R.ex.seqT h1), e2, e4, ?_⟩
    rw [e1, e3, inV_any]
    exact k G _ _ n H Adv.refl R (by simp only [Is]) h
  · exact h.elim
theorem op_inX (hK : X.K = M.L.K) : OpR X (compareOp .In) (fun x y H Q => (∃ (c : Nat) (z : Str), x = .str ⟨#[c]⟩ ∧ y = .str z ∧ Q (.bl (if false then !decide (c ∈ z.cps.toList) else decide (c ∈ z.cps.toList))) H) ∨ rIn M.L.K false x y H Q) := hK ▸ OpR.or op_in_sign op_in_seq
theorem op_notInX (hK : X.K = M.L.K) : OpR X (compareOp .NotIn) (fun x y H Q => (∃ (c : Nat) (z : Str), x = .str ⟨#[c]⟩ ∧ y = .str z ∧ Q (.bl (if true then !decide (c ∈ z.cps.toList) else decide (c ∈ z.cps.toList))) H) ∨ rIn M.L.K true x y H Q) := hK ▸ OpR.or op_notIn_sign op_notIn_seq
theorem dr_inX : DR2 M (fun x y H Q => (∃ (c : Nat) (z : Str), x = .str ⟨#[c]⟩ ∧ y = .str z ∧ Q (.bl (if false then !decide (c ∈ z.cps.toList) else decide (c ∈ z.cps.toList))) H) ∨ rIn M.L.K false x y H Q) gIn := dr_in
theorem dr_notInX : DR2 M (fun x y H Q => (∃ (c : Nat) (z : Str), x = .str ⟨#[c]⟩ ∧ y = .str z ∧ Q (.bl (if true then !decide (c ∈ z.cps.toList) else decide (c ∈ z.cps.toList))) H) ∨ rIn M.L.K true x y H Q) gNotIn := dr_in
def isNon : D → Bool | .non => true | _ => false
theorem isNon_ok {G : Hp} {v : V} {d : D} (h : Is M G v d) : decide (v = .non) = isNon d := by
  cases d <;> simp only [Is] at h <;> first | (subst h; rfl) | (obtain ⟨rfl, _⟩ := h; rfl) | (obtain ⟨_, _, rfl, _⟩ := h; rfl) | (obtain ⟨_, _, _, rfl, _⟩ := h; rfl) | exact h.elim
def gIsN : GR2 := fun x y n q => y = .non ∧ q (.bl (isNon x)) n
def gNotN : GR2 := fun x y n q => y = .non ∧ q (.bl (!isNon x)) n
theorem dr_isN : DR2 M (fun x y H Q => y = .non ∧ Q (.bl (decide (x = .non))) H) gIsN := by
  intro pn G n σ δ H v u x y q Q R ix iy h k
  obtain ⟨rfl, h⟩ := h
  simp only [Is] at iy
  exact ⟨iy, k G _ (.bl (isNon x)) n H Adv.refl R (by simp only [Is, isNon_ok ix]) h⟩
theorem dr_notN : DR2 M (fun x y H Q => y = .non ∧ Q (.bl (!decide (x = .non))) H) gNotN := by
  intro pn G n σ δ H v u x y q Q R ix iy h k
  obtain ⟨rfl, h⟩ := h
  simp only [Is] at iy
  exact ⟨iy, k G _ (.bl (!isNon x)) n H Adv.refl R (by simp only [Is, isNon_ok ix]) h⟩
end
end DL

set_option Elab.async false
set_option linter.all false
set_option maxRecDepth 100000
set_option maxHeartbeats 4000000
set_option autoImplicit false
namespace DL
open PySem PySem.Spec PyProof.Rows L2
section
variable {X : Cx} {M : LK} {W : WX}
/-! ### subscripts -/
def gIx : GR2 := fun x y n q => match x, y with
  | .lst xs, .int i => ∃ d, atI xs i = some d ∧ q d n
  | .tup xs, .int i => ∃ d, atI xs i = some d ∧ q d n
  | .str l, .int i => l.length ≤ 100000 ∧ ∃ c, atI l i = some c ∧ q (.str [c]) n
  | .ref a, .int i => ∃ xs d, n.mu a = some (.lst xs) ∧ atI xs i = some d ∧ q d n
  | _, _ => False
theorem IsL.atI {G : Hp} {ds : List D} {vs : List V} {i : Int} {d : D} (h : IsL M G vs ds) (e : atI ds i = some d) : ∃ v, L2.atI vs i = some v ∧ Is M G v d := by
  unfold L2.atI at e ⊢
  rw [h.length]
  cases e1 : ixN ds.length i with
  | none => rw [e1] at e; cases e
  | some j =>
    rw [e1] at e
    exact IsL.get h e
theorem dr_ix : DR2 M (rIx M.L.K) gIx := by
  intro pn G n σ δ H v u x y q Q R ix iy h k
  unfold gIx at h
  split at h
  · rename_i xs i
    obtain ⟨d, e, h⟩ := h
    simp only [Is] at ix iy
    obtain ⟨p, vs, rfl, h1, h2⟩ := ix
    obtain ⟨w, e1, i1⟩ := h2.atI e
    exact .inl ⟨p, vs, i, w, rfl, iy, SqL.of (R.ex _ _ h1), e1, k G w d n H Adv.refl R i1 h⟩
  · rename_i xs i
    obtain ⟨d, e, h⟩ := h
    simp only [Is] at ix iy
    obtain ⟨p, vs, rfl, h1, h2⟩ := ix
    obtain ⟨w, e1, i1⟩ := h2.atI e
    exact .inr (.inl ⟨p, vs, i, w, rfl, iy, R.ex.seqT h1, e1, k G w d n H Adv.refl R i1 h⟩)
  · rename_i l i
    obtain ⟨hl, c, e, h⟩ := h
    simp only [Is] at ix iy
    exact .inr (.inr ⟨S l, i, c, ix, iy, by rw [S_len]; exact le_line hl, by rw [S_cps]; exact e, k G _ (.str [c]) n H Adv.refl R (by simp only [Is]) h⟩)
  · rename_i a i
    obtain ⟨xs, d, hm, e, h⟩ := h
    simp only [Is] at ix iy
    subst ix
    obtain ⟨u, h1, h2, _, _⟩ := R.mu a _ hm
    cases u <;> simp only [MIs] at h2
    obtain ⟨w, e1, i1⟩ := h2.atI e
    exact .inl ⟨a, _, i, w, rfl, iy, SqL.of h1, e1, k G w d n H Adv.refl R i1 h⟩
  · exact h.elim
theorem dp_ix {a b : Expr} {pos : Pos} {fa fb : DTE} (hK : X.K = M.L.K) (ha : PE X a (liftE M W fa)) (hb : PE X b (liftE M W fb)) (hs : PlainIx b := by exact fun _ _ => rfl) : PE X (.Subscript a b pos) (liftE M W (dOp gIx fa fb)) :=
  PEw (pe_ix (r := rIx M.L.K) (hK ▸ ix_seq) ha hb hs) (liftE_bin dr_ix)
/-! ### slices -/
abbrev DTO := DEnv → NS → (Option Int → NS → Prop) → DX → Prop
def liftO (M : LK) (W : WX) (f : DTO) : TO := fun σ H Q => ∃ pn G n δ q e, Rep M pn G n σ δ H ∧ f δ n q e ∧ (∀ G' b n' H', Adv pn G H G' H' → Rep M pn G' n' σ δ H' → q b n' → Q b H') ∧ XEnd M W pn G σ δ H e
theorem POw {X : Cx} {e : Option Expr} {t t' : TO} (h : PO X e t) (w : ∀ σ H Q, t' σ H Q → t σ H Q) : PO X e t' := ⟨fun pins s σ H Q I q => h.run pins s σ H Q I (w _ _ _ q)⟩
def dNoPart : DTO := fun _ n q _ => q none n
def dPart (f : DTE) : DTO := fun δ n q e => f δ n (fun x n1 => match x with | .int i => q (some i) n1 | _ => False) e
theorem do_none : PO X none (liftO M W dNoPart) := POw po_none fun σ H Q ⟨pn, G, n, δ, q, e, R, hf, hQ, hX⟩ => hQ G none n H Adv.refl R hf
theorem do_some {a : Expr} {f : DTE} (h : PE X a (liftE M W f)) : PO X (some a) (liftO M W (dPart f)) := POw (po_some h) fun σ H Q ⟨pn, G, n, δ, q, e, R, hf, hQ, hX⟩ => by
  refine ⟨pn, G, n, δ, _, e, R, hf, fun G1 v d n1 H1 A1 R1 i1 h1 => ?_, hX⟩
  cases d with
  | int i =>
    simp only [Is] at i1
    exact ⟨i, i1, hQ G1 _ n1 H1 A1 R1 h1⟩
  | _ => exact h1.elim
def cutL {α : Type} (xs : List α) (lo hi : Option Int) : List α := (xs.drop (HT.sIx xs.length 0 lo)).take (HT.sIx xs.length xs.length hi - HT.sIx xs.length 0 lo)
def dSl (f : DTE) (lo hi : DTO) : DTE := fun δ n q e => f δ n (fun x n1 => lo δ n1 (fun i n2 => hi δ n2 (fun j n3 => match x with
  | .lst xs => q (.lst (cutL xs i j)) n3
  | .tup xs => q (.tup (cutL xs i j)) n3
  | .str l => l.length ≤ 100000 ∧ q (.str (cutL l i j)) n3
  | _ => False) e) e) e
def rSlX (K : Frag) : V → Option Int → Option Int → Hp → VK → Prop := fun x lo hi H Q => (rSlL K x lo hi H Q ∨ rSlA K x lo hi H Q) ∨ rSlS x lo hi H Q
theorem sl_X (hK : X.K = M.L.K) : SlR X (rSlX M.L.K) := hK ▸ SlR.or (SlR.or sl_list sl_tupA) sl_str
theorem cutL_id {α : Type} {xs : List α} {lo hi : Option Int} (h : HT.sIx xs.length 0 lo = 0 ∧ HT.sIx xs.length xs.length hi = xs.length) : cutL xs lo hi = xs := by
  unfold cutL
  rw [h.1, h.2, List.drop_zero, Nat.sub_zero, List.take_length]
theorem IsL.cut {G : Hp} {ds : List D} {vs : List V} {lo hi : Option Int} (h : IsL M G vs ds) : IsL M G (cutV vs lo hi) (cutL ds lo hi) := by
  unfold cutV cutL
  rw [h.length]
  exact IsL.take _ (IsL.drop _ h)
theorem dp_slice {a : Expr} {lo hi : Option Expr} {p2 pos : Pos} {f : DTE} {fl fh : DTO} (h : PE X (.Subscript a (.Slice lo hi none p2) pos) (tSl (rSlX M.L.K) (liftE M W f) (liftO M W fl) (liftO M W fh))) : PE X (.Subscript a (.Slice lo hi none p2) pos) (liftE M W (dSl f fl fh)) :=
  PEw h fun σ H Q ⟨pn, G, n, δ, q, e, R, hf, hQ, hX⟩ => by
    refine ⟨pn, G, n, δ, _, e, R, hf, fun G1 v d n1 H1 A1 R1 i1 h1 => ?_, hX⟩
    refine ⟨pn, G1, n1, δ, _, e, R1, h1, fun G2 i n2 H2 A2 R2 h2 => ?_, hX.on R A1⟩
    have A12 := R.tr A1 A2
    refine ⟨pn, G2, n2, δ, _, e, R2, h2, fun G3 j n3 H3 A3 R3 h3 => ?_, hX.on R A12⟩
    have A13 := R.tr A12 A3
    have i3 := Is.up (A2.ge.trans A3.ge) d v i1
    cases d with
    | lst xs =>
      simp only [Is] at i3
      obtain ⟨p, vs, rfl, e1, e2⟩ := i3
      refine .inl (.inl ⟨p, vs, rfl, SqL.of (R3.ex _ _ e1), fun l hl => ?_⟩)
      obtain ⟨R4, A4⟩ := R3.lay (o := .lst (cutV vs i j)) hl notTbl_lst
      exact hQ _ _ (.lst (cutL xs i j)) n3 _ (R.tr A13 A4) R4 (by simp only [Is]; exact ⟨l, _, rfl, upd_same, IsL.up A4.ge _ _ e2.cut⟩) h3
    | tup xs =>
      have i3' := i3
      simp only [Is] at i3
      obtain ⟨p, vs, rfl, e1, e2⟩ := i3
      refine .inl (.inr ⟨p, vs, rfl, R3.ex.seqT e1, fun hz => ?_, fun _ l hl => ?_⟩)
      · rw [e2.length] at hz
        have h3' : q (.tup (cutL xs i j)) n3 := h3
        rw [cutL_id hz] at h3'
        exact hQ _ _ (.tup xs) n3 _ A13 R3 i3' h3'
      · obtain ⟨R4, A4⟩ := R3.lay (o := .tup (cutV vs i j)) hl notTbl_tup
        exact hQ _ _ (.tup (cutL xs i j)) n3 _ (R.tr A13 A4) R4 (by simp only [Is]; exact ⟨l, _, rfl, SqT.of upd_same, IsL.up A4.ge _ _ e2.cut⟩) h3
    | str l =>
      simp only [Is] at i3
      refine .inr ⟨S l, i3, by rw [S_len]; exact le_line h3.1, hQ _ _ (.str (cutL l i j)) n3 _ A13 R3 ?_ h3.2⟩
      simp only [Is]
      unfold cutS cutL
      rw [S_cps, S_len]
    | _ => exact h3.elim
end
end DL

set_option Elab.async false
set_option linter.all false
set_option maxRecDepth 100000
set_option maxHeartbeats 4000000
set_option autoImplicit false
/-! The data layer: calls of built-ins, methods of texts. -/
namespace DL
open PySem PySem.Spec PyProof.Rows L2
section
variable {X : Cx} {M : LK} {W : WX}
abbrev GC := List D → NS → (D → NS → Prop) → Prop
theorem dp_bfn {x : Str} {p pos : Pos} {e : Expr} {es : List Expr} {id : String} {r : List V → Hp → VK → Prop} {g : GC} {f : DTA} (hc : CallR X (.builtin id) r) (hr : DRC M r g) (hg : Gl X x) (hm : X.mg x = none) (hv : bootBuiltins x = some (.builtin id)) (ha : PA X (e :: es) (liftA M W f)) (hn : x ≠ "__name__" := by decide) (hdb : (x == ("__debug__" : Str)) = false := by decide)
    (he : starEach (e :: es) X.env = (false, eval e X.env) :: starEach es X.env := by exact starEach_cons rfl) (hpl : (backTo pos (starEach es X.env)).any (·.1) = false := by rfl) : PE X (.Call (.Name x p) (e :: es) [] pos) (liftE M W (dCB g f)) :=
  dp_cb (pe_callB hc hg hm hv ha hn hdb he hpl) hr
theorem dp_bty {x : Str} {p pos : Pos} {e : Expr} {es : List Expr} {T : String} {r : List V → Hp → VK → Prop} {g : GC} {f : DTA} (hc : CallR X (.type T) r) (hr : DRC M r g) (hg : Gl X x) (hm : X.mg x = none) (hv : bootBuiltins x = some (.type T)) (ha : PA X (e :: es) (liftA M W f)) (hn : x ≠ "__name__" := by decide) (hdb : (x == ("__debug__" : Str)) = false := by decide)
    (he : starEach (e :: es) X.env = (false, eval e X.env) :: starEach es X.env := by exact starEach_cons rfl) (hpl : (backTo pos (starEach es X.env)).any (·.1) = false := by rfl) : PE X (.Call (.Name x p) (e :: es) [] pos) (liftE M W (dCB g f)) :=
  dp_cb (pe_callTy hc hg hm hv ha hn hdb he hpl) hr
/-- the name of a built-in type -/
theorem dp_ty {x : Str} {pos : Pos} {T : String} (hg : Gl X x) (hm : X.mg x = none) (hv : bootBuiltins x = some (.type T)) (hn : x ≠ "__name__" := by decide) (hd : (x == ("__debug__" : Str)) = false := by decide) : PE X (.Name x pos) (liftE M W (dC (.ty T))) :=
  dp_c (pe_bltn (v := .ty T) hg hm hv rfl hn hd) fun _ => by simp only [Is]
/-- the name of an own class -/
theorem dp_cls {x : Str} {pos : Pos} {C : Addr} (hg : Gl X x) (hm : X.mg x = some (.ref C)) (hd : (x == ("__debug__" : Str)) = false := by decide) : PE X (.Name x pos) (liftE M W (dC (.ref C))) :=
  dp_c (pe_glob (v := .ref C) hg hm rfl hd) fun _ => by simp only [Is]
theorem IsL.one {G : Hp} {vs : List V} {d : D} (h : IsL M G vs [d]) : ∃ v, vs = [v] ∧ Is M G v d := by
  match vs, h with
  | [v], h => simp only [IsL] at h; exact ⟨v, rfl, h.1⟩
  | [], h => simp only [IsL] at h
  | _ :: _ :: _, h => simp only [IsL, and_false] at h
theorem IsL.two {G : Hp} {vs : List V} {d d' : D} (h : IsL M G vs [d, d']) : ∃ v v', vs = [v, v'] ∧ Is M G v d ∧ Is M G v' d' := by
  match vs, h with
  | [v, v'], h => simp only [IsL] at h; exact ⟨v, v', rfl, h.1, h.2.1⟩
  | [], h => simp only [IsL] at h
  | [_], h => simp only [IsL, and_false] at h
  | _ :: _ :: _ :: _, h => simp only [IsL, and_false] at h
/-! ### len -/
def gLen : GC := fun xs n q => match xs with
  | [.str l] => l.length ≤ 100000 ∧ q (.int (l.length : Nat)) n
  | [.lst ys] => q (.int (ys.length : Nat)) n
  | [.tup ys] => q (.int (ys.length : Nat)) n
  | [.ref a] => ∃ ys, n.mu a = some (.lst ys) ∧ q (.int (ys.length : Nat)) n
  | _ => False
theorem drc_len (hK : X.K = M.L.K) : DRC M (fun xs H Q => ∃ x n, xs = [x] ∧ LenV X.K x H n ∧ Q (.int (n : Nat)) H) gLen := by
  intro pn G n σ δ H vs xs q Q R iv h k
  unfold gLen at h
  split at h
  · rename_i l
    obtain ⟨v, rfl, iw⟩ := iv.one; clear iv; rename Is M G v _ => iv
    have iv' := iv
    simp only [Is] at iv'
    subst iv'
    exact ⟨_, l.length, rfl, ⟨by rw [S_len]; exact le_line h.1, by rw [S_len]⟩, k G _ _ n H Adv.refl R (by simp only [Is]) h.2⟩
  · rename_i ys
    obtain ⟨v, rfl, iw⟩ := iv.one; clear iv; rename Is M G v _ => iv
    simp only [Is] at iv
    obtain ⟨p, us, rfl, h1, h2⟩ := iv
    exact ⟨_, ys.length, rfl, .inl ⟨us, SqL.of (R.ex _ _ h1), h2.length.symm⟩, k G _ _ n H Adv.refl R (by simp only [Is]) h⟩
  · rename_i ys
    obtain ⟨v, rfl, iw⟩ := iv.one; clear iv; rename Is M G v _ => iv
    simp only [Is] at iv
    obtain ⟨p, us, rfl, h1, h2⟩ := iv
    exact ⟨_, ys.length, rfl, .inr ⟨us, by rw [hK]; exact R.ex.seqT h1, h2.length.symm⟩, k G _ _ n H Adv.refl R (by simp only [Is]) h⟩
  · rename_i a
    obtain ⟨v, rfl, iw⟩ := iv.one; clear iv; rename Is M G v _ => iv
    obtain ⟨ys, hm, h⟩ := h
    simp only [Is] at iv
    subst iv
    obtain ⟨u, h1, h2, _, _⟩ := R.mu a _ hm
    cases u <;> simp only [MIs] at h2
    exact ⟨_, ys.length, rfl, .inl ⟨_, SqL.of h1, h2.length.symm⟩, k G _ _ n H Adv.refl R (by simp only [Is]) h⟩
  · exact h.elim
/-! ### int -/
def gInt : GC := fun xs n q => match xs with
  | [.int i] => q (.int i) n
  | [.bl b] => q (.int (if b then 1 else 0)) n
  | _ => False
theorem drc_int : DRC M (fun xs H Q => (∃ i, xs = [.int i] ∧ Q (.int i) H) ∨ ∃ k : Bool, xs = [.bl k] ∧ Q (.int (if k then 1 else 0)) H) gInt := by
  intro pn G n σ δ H vs xs q Q R iv h k
  unfold gInt at h
  split at h
  · rename_i i
    obtain ⟨v, rfl, iw⟩ := iv.one; clear iv; rename Is M G v _ => iv
    simp only [Is] at iv
    subst iv
    exact .inl ⟨_, rfl, k G _ _ n H Adv.refl R (by simp only [Is]) h⟩
  · rename_i b
    obtain ⟨v, rfl, iw⟩ := iv.one; clear iv; rename Is M G v _ => iv
    simp only [Is] at iv
    subst iv
    exact .inr ⟨_, rfl, k G _ _ n H Adv.refl R (by simp only [Is]) h⟩
  · exact h.elim
/-! ### abs, max, min -/
def gAbs : GC := fun xs n q => match xs with | [.int i] => q (.int (if i < 0 then -i else i)) n | _ => False
theorem drc_abs : DRC M (fun xs H Q => ∃ i : Int, xs = [.int i] ∧ Q (.int (if i < 0 then -i else i)) H) gAbs := by
  intro pn G n σ δ H vs xs q Q R iv h k
  unfold gAbs at h
  split at h
  · rename_i i
    obtain ⟨v, rfl, iw⟩ := iv.one; clear iv; rename Is M G v _ => iv
    simp only [Is] at iv
    subst iv
    exact ⟨_, rfl, k G _ _ n H Adv.refl R (by simp only [Is]) h⟩
  · exact h.elim
def gMax : GC := fun xs n q => match xs with | [.int i, .int j] => q (.int (if j > i then j else i)) n | _ => False
def gMin : GC := fun xs n q => match xs with | [.int i, .int j] => q (.int (if j < i then j else i)) n | _ => False
theorem drc_max : DRC M (fun xs H Q => ∃ i j : Int, xs = [.int i, .int j] ∧ Q (.int (if j > i then j else i)) H) gMax := by
  intro pn G n σ δ H vs xs q Q R iv h k
  unfold gMax at h
  split at h
  · rename_i i j
    obtain ⟨v, v', rfl, iw, iw'⟩ := iv.two; clear iv; rename Is M G v _ => iv; rename Is M G v' _ => iv'
    simp only [Is] at iv iv'
    subst iv; subst iv'
    exact ⟨_, _, rfl, k G _ _ n H Adv.refl R (by simp only [Is]) h⟩
  · exact h.elim
theorem drc_min : DRC M (fun xs H Q => ∃ i j : Int, xs = [.int i, .int j] ∧ Q (.int (if j < i then j else i)) H) gMin := by
  intro pn G n σ δ H vs xs q Q R iv h k
  unfold gMin at h
  split at h
  · rename_i i j
    obtain ⟨v, v', rfl, iw, iw'⟩ := iv.two; clear iv; rename Is M G v _ => iv; rename Is M G v' _ => iv'
    simp only [Is] at iv iv'
    subst iv; subst iv'
    exact ⟨_, _, rfl, k G _ _ n H Adv.refl R (by simp only [Is]) h⟩
  · exact h.elim
/-! ### list -/
def gList : GC := fun xs n q => match xs with
  | [.lst ys] => q (.lst ys) n
  | [.tup ys] => q (.lst ys) n
  | [.str l] => l.length ≤ 100000 ∧ q (.lst (l.map fun c => .str [c])) n
  | _ => False
theorem IsL.signs {G : Hp} : ∀ (l : List Nat), IsL M G (l.map fun c => V.str ⟨#[c]⟩) (l.map fun c => .str [c])
  | [] => by simp only [List.map_nil, IsL]
  | c :: l => by
    simp only [List.map_cons, IsL]
    exact ⟨by simp only [Is], IsL.signs l⟩
theorem cl_list (hc : X.calm = true) : CallR X (.type "list") (fun xs H Q => (∃ p ys, xs = [.ref p] ∧ (SqL X.K H p ys ∨ SqT X.K H p ys) ∧ ∀ l, H l = none → Q (.ref l) (upd H l (.lst ys))) ∨ ∃ z : Str, xs = [.str z] ∧ z.length ≤ sizeLine ∧ ∀ l, H l = none → Q (.ref l) (upd H l (.lst (z.cps.toList.map fun c => V.str ⟨#[c]⟩)))) := CallR.or call_list_of (call_list_str hc)
theorem drc_list (hK : X.K = M.L.K) : DRC M (fun xs H Q => (∃ p ys, xs = [.ref p] ∧ (SqL X.K H p ys ∨ SqT X.K H p ys) ∧ ∀ l, H l = none → Q (.ref l) (upd H l (.lst ys))) ∨ ∃ z : Str, xs = [.str z] ∧ z.length ≤ sizeLine ∧ ∀ l, H l = none → Q (.ref l) (upd H l (.lst (z.cps.toList.map fun c => V.str ⟨#[c]⟩)))) gList := by
  intro pn G n σ δ H vs xs q Q R iv h k
  unfold gList at h
  split at h
  · rename_i ys
    obtain ⟨v, rfl, iw⟩ := iv.one; clear iv; rename Is M G v _ => iv
    simp only [Is] at iv
    obtain ⟨p, us, rfl, h1, h2⟩ := iv
    refine .inl ⟨p, us, rfl, .inl (SqL.of (R.ex _ _ h1)), fun l hl => ?_⟩
    obtain ⟨R2, A2⟩ := R.lay (o := .lst us) hl notTbl_lst
    exact k _ _ _ n _ A2 R2 (by simp only [Is]; exact ⟨l, us, rfl, upd_same, IsL.up A2.ge _ _ h2⟩) h
  · rename_i ys
    obtain ⟨v, rfl, iw⟩ := iv.one; clear iv; rename Is M G v _ => iv
    simp only [Is] at iv
    obtain ⟨p, us, rfl, h1, h2⟩ := iv
    refine .inl ⟨p, us, rfl, .inr (by rw [hK]; exact R.ex.seqT h1), fun l hl => ?_⟩
    obtain ⟨R2, A2⟩ := R.lay (o := .lst us) hl notTbl_lst
    exact k _ _ _ n _ A2 R2 (by simp only [Is]; exact ⟨l, us, rfl, upd_same, IsL.up A2.ge _ _ h2⟩) h
  · rename_i l0
    obtain ⟨v, rfl, iw⟩ := iv.one; clear iv; rename Is M G v _ => iv
    simp only [Is] at iv
    subst iv
    refine .inr ⟨S l0, rfl, by rw [S_len]; exact le_line h.1, fun l hl => ?_⟩
    rw [S_cps]
    obtain ⟨R2, A2⟩ := R.lay (o := .lst (l0.map fun c => V.str ⟨#[c]⟩)) hl notTbl_lst
    exact k _ _ _ n _ A2 R2 (by simp only [Is]; exact ⟨l, _, rfl, upd_same, IsL.signs l0⟩) h.2
  · exact h.elim
/-! ### all, any -/
def blsD : List D → Option (List Bool)
  | [] => some []
  | .bl b :: r => (blsD r).map (b :: ·)
  | _ :: _ => none
theorem blsD_ok {G : Hp} : ∀ {ds : List D} {vs : List V} {bs : List Bool}, IsL M G vs ds → blsD ds = some bs → vs = bs.map V.bl
  | [], [], bs, _, e => by simp only [blsD] at e; cases e; rfl
  | .bl b :: r, v :: vs, bs, h, e => by
    simp only [blsD] at e
    simp only [IsL, Is] at h
    cases e1 : blsD r with
    | none => rw [e1] at e; cases e
    | some bs' =>
      rw [e1] at e
      cases e
      rw [h.1, blsD_ok h.2 e1]
      rfl
  | [], _ :: _, _, h, _ => by simp only [IsL] at h
  | _ :: _, [], _, h, _ => by simp only [IsL] at h
theorem blsD_map (l : List Bool) : blsD (l.map D.bl) = some l := by
  induction l with
  | nil => rfl
  | cons b l ih => simp [blsD, ih]
def gAll : GC := fun xs n q => match xs with | [.lst ys] => (match blsD ys with | some bs => q (.bl (bs.all id)) n | none => False) | _ => False
def gAny : GC := fun xs n q => match xs with | [.lst ys] => (match blsD ys with | some bs => q (.bl (bs.any id)) n | none => False) | _ => False
theorem drc_all (hK : X.K = M.L.K) : DRC M (rAll X.K) gAll := by
  intro pn G n σ δ H vs xs q Q R iv h k
  unfold gAll at h
  split at h
  · rename_i ys
    obtain ⟨v, rfl, iw⟩ := iv.one; clear iv; rename Is M G v _ => iv
    simp only [Is] at iv
    obtain ⟨p, us, rfl, h1, h2⟩ := iv
    cases e : blsD ys with
    | none => rw [e] at h; exact h.elim
    | some bs =>
      rw [e] at h
      refine ⟨p, bs, rfl, SqL.of ?_, k G _ _ n H Adv.refl R (by simp only [Is]) h⟩
      rw [← blsD_ok h2 e]
      exact R.ex _ _ h1
  · exact h.elim
theorem drc_any (hK : X.K = M.L.K) : DRC M (rAny X.K) gAny := by
  intro pn G n σ δ H vs xs q Q R iv h k
  unfold gAny at h
  split at h
  · rename_i ys
    obtain ⟨v, rfl, iw⟩ := iv.one; clear iv; rename Is M G v _ => iv
    simp only [Is] at iv
    obtain ⟨p, us, rfl, h1, h2⟩ := iv
    cases e : blsD ys with
    | none => rw [e] at h; exact h.elim
    | some bs =>
      rw [e] at h
      refine ⟨p, bs, rfl, SqL.of ?_, k G _ _ n H Adv.refl R (by simp only [Is]) h⟩
      rw [← blsD_ok h2 e]
      exact R.ex _ _ h1
  · exact h.elim
/-! ### isinstance -/
/-- the type of a tree of built-in values -/
def kindD : D → Option String
  | .non => some "NoneType"
  | .bl _ => some "bool"
  | .int _ => some "int"
  | .str _ => some "str"
  | .lst _ => some "list"
  | .tup _ => some "tuple"
  | _ => none
/-- what an own class must have for isinstance of its instances -/
structure InsC (K : PySem.W.Frag) (C : Addr) : Prop where
  cl : Cls K C
  ha : PySem.W.findIn K (.ref C) "__class__" = some (some (.builtin "object.__class__"))
  hn : PySem.W.specialIn K (.builtin "object.__class__") "__get__" = some (some (.builtin "getset_descriptor.__get__"))
  htk : PySem.W.takesIn K (.builtin "object.__class__") = some true
  hm : PySem.W.mroIn K C (.type "object") = some true
def tyD (K : PySem.W.Frag) (x : D) (t : Value) : Prop := (∃ s, kindD x = some s ∧ t = .type s) ∨ ∃ C ns ys, x = .ins C ns ys ∧ t = .ref C ∧ InsC K C
def clsD : D → Option Value
  | .ty s => some (.type s)
  | .ref C => some (.ref C)
  | _ => none
/-- isinstance(x, c) -/
def isiD (K : PySem.W.Frag) (x c : D) (k : Bool → Prop) : Prop := match kindD x, c with
  | some s, .ty t => (match kitB s t with | some b => k b | none => False)
  | _, _ => ∃ t u b, tyD K x t ∧ clsD c = some u ∧ PySem.W.kitOne K t u = some b ∧ k b
theorem tyD_ok {G H : Hp} (hx : Ext G H) {v : V} {x : D} {t : Value} (h : tyD M.L.K x t) (iv : Is M G v x) : TyX M.L.K H v t := by
  rcases h with ⟨s, h, rfl⟩ | ⟨C, ns, ys, rfl, rfl, I⟩
  · cases x <;> simp only [kindD] at h <;> cases h
    · simp only [Is] at iv; subst iv; exact .base .non
    · simp only [Is] at iv; subst iv; exact .base (.bl _)
    · simp only [Is] at iv; subst iv; exact .base (.int _)
    · simp only [Is] at iv; subst iv; exact .base (.str _)
    · simp only [Is] at iv
      obtain ⟨p, us, rfl, h1, h2⟩ := iv
      exact .base (.lst (hx _ _ h1))
    · simp only [Is] at iv
      obtain ⟨p, us, rfl, h1, h2⟩ := iv
      rcases hx.seqT h1 with (h1 | ⟨o, h1⟩) | ⟨o, its, n, h1, h3, _⟩
      · exact .base (.tup h1)
      · exact .fTuple h1
      · exact .kTuple h1 h3
  · simp only [Is] at iv
    obtain ⟨p, dx, fs, rfl, h1, h2, h3⟩ := iv
    exact .base (.ins (hx _ _ h1) I.cl I.ha I.hn I.htk I.hm)
theorem clsD_ok {G : Hp} {v : V} {c : D} {u : Value} (h : clsD c = some u) (iv : Is M G v c) : ClsV v u := by
  cases c <;> simp only [clsD] at h <;> cases h
  · simp only [Is] at iv; subst iv; exact .ty _
  · simp only [Is] at iv; subst iv; exact .own _
theorem isiD_ok {x c : D} {k : Bool → Prop} (h : isiD M.L.K x c k) : ∃ t u b, tyD M.L.K x t ∧ clsD c = some u ∧ PySem.W.kitOne M.L.K t u = some b ∧ k b := by
  unfold isiD at h
  split at h
  · rename_i s t e
    cases e1 : kitB s t with
    | none => rw [e1] at h; exact h.elim
    | some b =>
      rw [e1] at h
      exact ⟨.type s, .type t, b, .inl ⟨s, e, rfl⟩, rfl, kit_ty e1, h⟩
  · exact h
def gIsi (K : PySem.W.Frag) : GC := fun xs n q => match xs with | [x, c] => isiD K x c fun b => q (.bl b) n | _ => False
theorem drc_isi (hK : X.K = M.L.K) : DRC M (rIsi X.K) (gIsi M.L.K) := by
  intro pn G n σ δ H vs xs q Q R iv h k
  unfold gIsi at h
  split at h
  · rename_i x c
    obtain ⟨v, v', rfl, iw, iw'⟩ := iv.two; clear iv; rename Is M G v _ => iv; rename Is M G v' _ => iv'
    obtain ⟨t, u, b, ht, hu, hb, h⟩ := isiD_ok h
    exact ⟨v, v', t, u, b, rfl, clsD_ok hu iv', by rw [hK]; exact tyD_ok R.ex ht iv, by rw [hK]; exact hb, k G _ _ n H Adv.refl R (by simp only [Is]) h⟩
  · exact h.elim
theorem kit_int_int : kitB "int" "int" = some true := by decide +kernel
theorem kit_int_bool : kitB "int" "bool" = some false := by decide +kernel
theorem kit_int_str : kitB "int" "str" = some false := by decide +kernel
theorem kit_int_list : kitB "int" "list" = some false := by decide +kernel
theorem kit_int_tuple : kitB "int" "tuple" = some false := by decide +kernel
theorem kit_bool_int : kitB "bool" "int" = some true := by decide +kernel
theorem kit_bool_bool : kitB "bool" "bool" = some true := by decide +kernel
theorem kit_bool_str : kitB "bool" "str" = some false := by decide +kernel
theorem kit_bool_list : kitB "bool" "list" = some false := by decide +kernel
theorem kit_bool_tuple : kitB "bool" "tuple" = some false := by decide +kernel
theorem kit_str_int : kitB "str" "int" = some false := by decide +kernel
theorem kit_str_bool : kitB "str" "bool" = some false := by decide +kernel
theorem kit_str_str : kitB "str" "str" = some true := by decide +kernel
theorem kit_str_list : kitB "str" "list" = some false := by decide +kernel
theorem kit_str_tuple : kitB "str" "tuple" = some false := by decide +kernel
theorem kit_non_int : kitB "NoneType" "int" = some false := by decide +kernel
theorem kit_non_bool : kitB "NoneType" "bool" = some false := by decide +kernel
theorem kit_non_str : kitB "NoneType" "str" = some false := by decide +kernel
theorem kit_non_list : kitB "NoneType" "list" = some false := by decide +kernel
theorem kit_non_tuple : kitB "NoneType" "tuple" = some false := by decide +kernel
theorem kit_list_int : kitB "list" "int" = some false := by decide +kernel
theorem kit_list_bool : kitB "list" "bool" = some false := by decide +kernel
theorem kit_list_str : kitB "list" "str" = some false := by decide +kernel
theorem kit_list_list : kitB "list" "list" = some true := by decide +kernel
theorem kit_list_tuple : kitB "list" "tuple" = some false := by decide +kernel
theorem kit_tuple_int : kitB "tuple" "int" = some false := by decide +kernel
theorem kit_tuple_bool : kitB "tuple" "bool" = some false := by decide +kernel
theorem kit_tuple_str : kitB "tuple" "str" = some false := by decide +kernel
theorem kit_tuple_list : kitB "tuple" "list" = some false := by decide +kernel
theorem kit_tuple_tuple : kitB "tuple" "tuple" = some true := by decide +kernel
/-! ### methods of texts -/
abbrev GM := D → List D → NS → (D → NS → Prop) → Prop
def gUpper : GM := fun x xs n q => match x, xs with | .str l, [] => l.length ≤ 100000 ∧ l.all (· < 128) = true ∧ q (.str (l.map up1)) n | _, _ => False
def gLower : GM := fun x xs n q => match x, xs with | .str l, [] => l.length ≤ 100000 ∧ l.all (· < 128) = true ∧ q (.str (l.map lo1)) n | _, _ => False
theorem drm_upper : DRM M (fun x xs H Q => ∃ a, x = .str a ∧ xs = [] ∧ a.length ≤ 5592405 ∧ Q (.str (Txt.upper a)) H) gUpper := by
  intro pn G n σ δ H v vs x xs q Q R iv ivs h k
  unfold gUpper at h
  split at h
  · rename_i l
    simp only [Is] at iv
    have e := ivs.length
    have e2 : vs = [] := List.eq_nil_of_length_eq_zero e
    subst e2
    exact ⟨S l, iv, rfl, by rw [S_len]; exact Nat.le_trans h.1 (by decide), k G _ _ n H Adv.refl R (by simp only [Is]; rw [show Txt.upper (S l) = S (l.map up1) from SX.upper_S h.2.1]) h.2.2⟩
  · exact h.elim
theorem drm_lower : DRM M (fun x xs H Q => ∃ a, x = .str a ∧ xs = [] ∧ a.length ≤ 5592405 ∧ Q (.str (Txt.lower a)) H) gLower := by
  intro pn G n σ δ H v vs x xs q Q R iv ivs h k
  unfold gLower at h
  split at h
  · rename_i l
    simp only [Is] at iv
    have e := ivs.length
    have e2 : vs = [] := List.eq_nil_of_length_eq_zero e
    subst e2
    exact ⟨S l, iv, rfl, by rw [S_len]; exact Nat.le_trans h.1 (by decide), k G _ _ n H Adv.refl R (by simp only [Is]; rw [show Txt.lower (S l) = S (l.map lo1) from SX.lower_S h.2.1]) h.2.2⟩
  · exact h.elim
/-- text.index(text), found -/
def gIndex : GM := fun x xs n q => match x, xs with
  | .str a, [.str b] => ∃ i rest, Builtin.Str.occurrences (S a) (S b) 0 (S a).length 1 = i :: rest ∧ q (.int (i : Nat)) n
  | _, _ => False
theorem drm_index : DRM M (fun x xs H Q => ∃ a b i rest, x = .str a ∧ xs = [.str b] ∧ Builtin.Str.occurrences a b 0 a.length 1 = i :: rest ∧ Q (.int (i : Nat)) H) gIndex := by
  intro pn G n σ δ H v vs x xs q Q R iv ivs h k
  unfold gIndex at h
  split at h
  · rename_i a b
    simp only [Is] at iv
    obtain ⟨u, rfl, iu⟩ := ivs.one
    simp only [Is] at iu
    obtain ⟨i, rest, e, h⟩ := h
    exact ⟨S a, S b, i, rest, iv, by rw [iu], e, k G _ _ n H Adv.refl R (by simp only [Is]) h⟩
  · exact h.elim
theorem pe_index {o e : Expr} {to te : TE} {apos pos : Pos} (ho : PE X o to) (he : PE X e te) (hs : starEach [e] X.env = [(false, eval e X.env)] := by rfl) (hbase : attributeBase o "index" X.env (eval o X.env) = eval o X.env := by rfl) (hline : (apos.endLine == pos.line) = true := by rfl) :
    PE X (.Call (.Attribute o "index" apos) [e] [] pos) (tM1 (fun x xs H Q => ∃ a b i rest, x = .str a ∧ xs = [.str b] ∧ Builtin.Str.occurrences a b 0 a.length 1 = i :: rest ∧ Q (.int (i : Nat)) H) to te) :=
  pe_m1 F.slot_str_index F.type_str_index mt_sindex ho he hs hbase hline
end
end DL

set_option Elab.async false
set_option linter.all false
set_option maxRecDepth 100000
set_option maxHeartbeats 2000000
set_option autoImplicit false
/-! An own error of one field whose __init__ says super().__init__(f), above ValueError by way of other own classes: made, raised. -/
namespace PySem
namespace EX
open PySem.W PySem.Calls PyProof.Rows PySem.HandSPX
/-! ### the text of __init__ -/
def iA (f : Str) (p1 p2 : Pos) : Arguments := { posonlyargs := [], args := [{ arg := "self", annotation := none, pos := p1 }, { arg := f, annotation := none, pos := p2 }], vararg := none, kwonlyargs := [], kw_defaults := [], kwarg := none, defaults := [] }
def iB (f : Str) (a1 a2 a3 a4 a5 a6 b1 b2 b3 b4 : Pos) : List Stmt :=
  [.Expr (.Call (.Attribute (.Call (.Name "super" a1) [] [] a2) "__init__" a3) [.Name f a4] [] a5) a6, .Assign [.Attribute (.Name "self" b1) f b2] (.Name f b3) b4]
def iS (f : Str) : Scope := { kind := .function, names := [(PySem.Str.ofString "self", .local), (f, .local), (PySem.Str.ofString "__class__", .free), (PySem.Str.ofString "super", .globalImplicit)], isGenerator := false, isCoroutine := false, more := [] }
/-- what the written part says of the class x, at C, of its field f, and of its __init__, at fI -/
structure ErrTxt (P : Program) (K : Frag) (mg : Str → Option Value) (x f : Str) (C fI : Addr) : Prop where
  gC : mg x = some (.ref C)
  cls : ∃ nm q N bs bm sn sub ab col dd k0 k1 k2 k3 k5, K.lookup C = some (excClassObj nm q C N bs bm true sn sub ab col dd k0 k1 k2 k3 k5 "ValueError.__new__") ∧ refsVE bm = true
  sa : findIn K (.ref C) "__setattr__" = some (some (.builtin "object.__setattr__"))
  ga : findIn K (.ref C) "__getattribute__" = some (some (.builtin "BaseException.__getattribute__"))
  gg : findIn K (.ref C) "__getattr__" = some none
  noN : findIn K (.ref C) f = some none
  iC : findIn K (.ref C) "__init__" = some (some (.ref fI))
  tC : typeIn K (.ref fI) = some (.type "function")
  kC : keepIn K (.ref C) = true
  exC : subIn K (.ref C) (.type "BaseException") = some true
  veC : subIn K (.ref C) (.type "ValueError") = some true
  tyC : typeIn K (.ref C) = some (.type "type")
  hdC : hasDictIn K C = true
  sup : ks_superIn K C C "__init__" = some (some (.builtin "ValueError.__init__"))
  slf : mroIn K C (.ref C) = some true
  opq : nsIn K cStatics "thirdparty.any" = some none
  gS : mg "super" = none
  htop : (P.main.scope.names.lookup ("super" : Str)).isSome = false
  fself : (f == ("self" : Str)) = false
  fdb : (f == ("__debug__" : Str)) = false
  ks : (iS f).names.lookup ("super" : Str) = some .globalImplicit
  kc : (iS f).names.lookup ("__class__" : Str) = some .free
  fn : ∃ (oc : Value) (od : Option Addr) (doc pm : Value) (an : Option Addr) (cda cc : Addr) (ct : Value) (osl : Array (Option Value)) (qual : Str) (p1 p2 a1 a2 a3 a4 a5 a6 b1 b2 b3 b4 : Pos) (ccl : Value) (cdd : Option Addr) (vs : Array Value) (ccs : Array (Option Value)) (file : Str) (tf : Tok)
      (cl : Value) (cld : Option Addr) (csl : Array (Option Value)),
    K.lookup fI = some ⟨oc, od, .func (ksFn "__init__" qual (iA f p1 p2) (iB f a1 a2 a3 a4 a5 a6 b1 b2 b3 b4) (iS f) .none .none doc pm an (.ref cda) ct cc), osl⟩ ∧ codeIn K (.ref cda) qual = true ∧
    K.lookup cda = some ⟨ccl, cdd, .fields vs, ccs⟩ ∧ vs[2]? = some (.str file tf) ∧ ((P.main.file : Str) == file) = true ∧ K.lookup cc = some ⟨cl, cld, .cell (some (.ref C)), csl⟩ ∧
    (∀ (a b : Value), bindArgs (ksFn "__init__" qual (iA f p1 p2) (iB f a1 a2 a3 a4 a5 a6 b1 b2 b3 b4) (iS f) .none .none doc pm an (.ref cda) ct cc) ⟨[a, b], []⟩ = pure [(("self" : Str), a), (f, b)]) ∧
    (∀ env : Env, env.scope = iS f → ∃ pl, eval (.Call (.Attribute (.Call (.Name "super" a1) [] [] a2) "__init__" a3) [.Name f a4] [] a5) env = (do
      let ov ← attributeBase (.Call (.Name "super" a1) [] [] a2) "__init__" env (eval (.Call (.Name "super" a1) [] [] a2) env)
      standAt a3.atName
      let (g, first) ← holding [ov] (getMethod ov "__init__" pl)
      callWith a5 g first (backTo a5 (starEach [.Name f a4] env)) []))
theorem one_size (v : Value) : [v].length ≤ sizeLine := by
  rw [sizeLine_eq]
  exact (by decide : 1 ≤ 16777216)
theorem ldC {M : Model} {s : Shared} {env : Env} {m : Str → Option Value} {x : Str} {pos : Pos} {v : Value} {Q : Value → Shared → Prop} {A : Around} {E : Value → Shared → Prop} (hn : s.heap.Ns env.locals m) (hv : m x = some v) (h : Q v s)
    (hk : env.scope.kind = .function) (hl : env.kindOf x = some .local) (hd : (x == ("__debug__" : Str)) = false) : wpAny M A (eval (.Name x pos) env) Q E s := wpAny_Name (wpAny_loadName_local hk hl hn hv h) hd
/-- what __init__ leaves of a fresh exception at x -/
structure InitEnd (h h' : Heap) (x C dx t1 : Addr) (f : Str) (v : Value) : Prop where
  keep : ∀ b o, b ≠ x → h.get? b = some o → h'.get? b = some o
  obj : h'.get? x = some { cls := .ref C, dict := some dx, data := .fields #[.ref t1, .none, .none, .none, .bool false, .none] }
  dbig : h.objs.size ≤ dx
  dne : dx ≠ x
  ns : h'.Ns1 dx (fun y => if y = f then some v else none)
/-- a made one -/
structure OwnMade (h h' : Heap) (e C d : Addr) (f : Str) (v : Value) : Prop where
  keep : ∀ b o, h.get? b = some o → h'.get? b = some o
  new : h.objs.size ≤ e
  obj : ∃ oe vs, h'.get? e = some oe ∧ oe.cls = .ref C ∧ oe.dict = some d ∧ oe.data = .fields vs ∧ vs[1]? = some .none
  dbig : h.objs.size ≤ d
  dne : d ≠ e
  ns : h'.Ns1 d (fun y => if y = f then some v else none)
section
variable {prog : Program} {w : World} {A : Around} {E : Value → Shared → Prop} {s : Shared}
/-- ValueError.__init__ bound to the exception at x, called -/
theorem call_mw {K : Frag} {nm q : Str} {C N u x t0 : Addr} {bs bm : List Value} {sn : List Str} {sub : List Value} {ab : Bool} {col : Option Bool} {dd : Option Addr} {k0 k1 k2 k3 k5 : Option Value} {rest : List Value} {Q : Value → Shared → Prop}
    (hC : s.heap.get? C = some (excClassObj nm q C N bs bm true sn sub ab col dd k0 k1 k2 k3 k5 "ValueError.__new__")) (hx : s.heap.get? x = some (excO C t0)) (hu : s.heap.get? u = some (kxs_mw "ValueError.__init__" x)) (hz : rest.length ≤ sizeLine)
    (h : ∀ h', (∀ b o, b ≠ x → s.heap.get? b = some o → h'.get? b = some o) → h'.get? x = some (excO C s.heap.objs.size) → Q .none { s with heap := h' }) :
    wpAny (model prog w) A (call (.ref u) rest) Q E s := by
  obtain ⟨hh, g, d, tk, os⟩ := s
  refine wpAny_call (codeAny_of_tree ?_)
  show wpAny _ A.in1 (callAny (.ref u) ⟨rest, []⟩) _ _ _
  simp only [callAny]
  refine wpAny_bind (wpAny_load hu ?_)
  simp only [kxs_mw, show (Value.type "method-wrapper" == Value.type "method" || Value.type "method-wrapper" == Value.type "builtin_function_or_method" || Value.type "method-wrapper" == Value.type "method-wrapper") = true by decide, if_true]
  refine W.KFB.if_so (by decide) ?_
  refine wpAny_bind (check_bound_init F.excBase_ValueError.toExcCallFacts hC hx rfl ?_)
  refine wpAny_bind (wpAny_pure (wpAny_pure ?_))
  refine ⟨plainId_quiet F.excBase_ValueError.init.plain _, codeAny_builtin F.excBase_ValueError.initEntry ?_⟩
  exact exc_init_tree (cls := .ref C) (t0 := t0) (dv := none) (c2 := .none) (c3 := .none) (b4 := .bool false) hx hz fun h' k e' _ => h h' k e'
end
section
variable {prog : Program} {w : World} {A : Around} {E : Value → Shared → Prop} {R : Result → Shared → Prop} {s : Shared} {K : Frag} {mg : Str → Option Value} {f x : Str} {C fI : Addr} {base : Heap}
theorem err_init (T : ErrTxt prog K mg x f C fI) (Md : L2.Mod K mg base) (bk : ∀ b o, base.get? b = some o → s.heap.get? b = some o) {x t0 : Addr} {v : Value} (X : K.In s.heap) (hlim : s.heap.NoLimit) (hx : s.heap.get? x = some (excO C t0)) (hnx : K.lookup x = none) (hroom : A.depth < recursionLimit)
    (hq : ∀ h' tk dx t1, InitEnd s.heap h' x C dx t1 f v → R (.ok (.ret .none)) { s with heap := h', toks := tk }) :
    codeAny (model prog w) A (.call (.ref fI) ⟨[.ref x, v], []⟩) R s := by
  obtain ⟨oc, od, doc, pm, an, cda, cc, ct, osl, qual, p1, p2, a1, a2, a3, a4, a5, a6, b1, b2, b3, b4, ccl, cdd, vs, ccs, file, tf, cl, cld, csl, ho, hcd, hcode, hvs, hfile, hcell, hbnd, hev⟩ := T.fn
  obtain ⟨nm, q, N, bs, bm, sn, sub, ab, col, dd, k0, k1, k2, k3, k5, hC, hbm⟩ := T.cls
  have hcl : clsIn K C = some { name := nm, bases := bs, mro := .ref C :: bm, ns := N, qualname := q, hasDict := true, slotNames := sn, subclasses := sub, abstract := ab, collection := col, hasDel := false } := by unfold clsIn; rw [hC] <;> rfl
  have fs := T.fself
  have sf : (("self" : Str) == f) = false := by
    cases e : (("self" : Str) == f) with
    | false => rfl
    | true =>
      rw [eq_of_beq e] at fs
      simp at fs
  have kself : (iS f).names.lookup ("self" : Str) = some .local := rfl
  have kf : (iS f).names.lookup f = some .local := by
    show List.lookup f [(PySem.Str.ofString "self", NameKind.local), (f, NameKind.local), (PySem.Str.ofString "__class__", NameKind.free), (PySem.Str.ofString "super", NameKind.globalImplicit)] = _
    have : (f == PySem.Str.ofString "self") = false := fs
    simp [List.lookup, this]
  have mself : (([(("self" : Str), .ref x), (f, v)] : List (Str × Value)).reverse.lookup ("self" : Str)) = some (.ref x) := by
    simp [List.lookup, sf]
  have mf : (([(("self" : Str), .ref x), (f, v)] : List (Str × Value)).reverse.lookup f) = some v := by
    simp [List.lookup]
  refine ks_codeAny_call_defAt (fd := ksFn "__init__" qual (iA f p1 p2) (iB f a1 a2 a3 a4 a5 a6 b1 b2 b3 b4) (iS f) .none .none doc pm an (.ref cda) ct cc) (binds := [(("self" : Str), .ref x), (f, v)]) hroom (X _ _ ho) rfl hlim (codeRec_of X hcd) rfl (BindsTo.of_eq (hbnd _ _)) ?hcell ?hloc (fun h₁ hns hk₁ => ?_) rfl rfl rfl
  case hcell =>
    intro y hy
    simp only [iS, List.mem_cons, List.not_mem_nil, or_false] at hy
    rcases hy with rfl | rfl | rfl | rfl <;> exact fun z => nomatch z
  case hloc =>
    intro y hy
    simp only [List.mem_cons, List.not_mem_nil, or_false] at hy
    rcases hy with rfl | rfl
    · exact kself
    · exact kf
  have hxL : s.heap.objs.size ≠ x := Nat.ne_of_gt (Heap.lt_size hx)
  have X₁ : K.In h₁ := X.keeps hk₁
  have hx₁ := hk₁ _ _ hx
  have I₁ : InstAt h₁ x (excO C t0) C none := ⟨hx₁, rfl, rfl, trivial⟩
  obtain ⟨mb, hb1, hb2⟩ := Md.blt
  have bk₁ : ∀ b o, base.get? b = some o → h₁.get? b = some o := fun b o e => hk₁ b o (bk b o e)
  obtain ⟨oD, hD1, hD2⟩ : ∃ oD, h₁.get? C = some oD ∧ ∃ cd, oD.data = .cls cd := ⟨_, X₁ _ _ hC, _, rfl⟩
  obtain ⟨cdD, hD2⟩ := hD2
  obtain ⟨pl, hev⟩ := hev (callEnv (ksFn "__init__" qual (iA f p1 p2) (iB f a1 a2 a3 a4 a5 a6 b1 b2 b3 b4) (iS f) .none .none doc pm an (.ref cda) ct cc) s.heap.objs.size fI) rfl
  refine ks_wpAt_execs_cons (ks_wpAt_Expr_any (ks_wpAt_MethodCall (pl := pl) ?_ hev))
  refine ks_wpAt_super_base (fd := ksFn "__init__" qual (iA f p1 p2) (iB f a1 a2 a3 a4 a5 a6 b1 b2 b3 b4) (iS f) .none .none doc pm an (.ref cda) ct cc) T.ks T.kc (by decide) rfl (X₁ _ _ ho) rfl (ar := { arg := "self", annotation := none, pos := p1 }) rfl (cc := cda) rfl (X₁ _ _ hcode) rfl hvs hfile T.htop ?_
  refine ks_loadName_global rfl T.ks (loadGlobal_builtin (Md.glob.keeps bk₁) T.gS (hb1.keeps bk₁) ((hb2 "super" (by decide)).trans (by decide +kernel : bootBuiltins "super" = some (.type "super"))) ⟨rfl, ?_⟩)
  refine wpAny_loadName_free rfl T.kc (c := cc) (v := .ref C) rfl ⟨_, X₁ _ _ hcell, rfl⟩ ?_
  refine wpAny_loadName_local rfl rfl hns mself ?_
  refine ks_wpAny_isType_cls hD1 hD2 ⟨rfl, ?_⟩
  refine ks_wpAny_call_super hD1 hD2 I₁.at_ I₁.cls (fun c e => nomatch e) (looks_mroIn X₁ T.slf) (fun h₂ hso hk₂ => ?_)
  have X₂ : K.In h₂ := X₁.keeps hk₂
  have hx₂ := hk₂ _ _ hx₁
  have I₂ : InstAt h₂ x (excO C t0) C none := ⟨hx₂, rfl, rfl, trivial⟩
  have hI : Looks (model prog w) h₂ (isInstance (.ref x) (.type "ValueError")) true := I₂.type.andThen (looks_subIn X₂ T.veC)
  have hs := T.sup
  unfold ks_superIn at hs
  rw [hcl] at hs
  refine kxs_getMethod kxs_ValueError hso (looks_opaque X₂ T.opq) (l₀ := .ref C :: bm) (fun A Q E s k q => wpAny_bind ((looks_clsIn X₂ hcl) A _ E s k (wpAny_pure q))) rfl X₂ hs hI (ks_ne X₂ I₂ hcl) (by decide) ?_
  have hk₃ : ∀ b o, h₂.get? b = some o → (h₂.push (kxs_mw "ValueError.__init__" x)).get? b = some o := fun b o e => Heap.get?_push_of_some _ e
  have hu : (h₂.push (kxs_mw "ValueError.__init__" x)).get? h₂.objs.size = some (kxs_mw "ValueError.__init__" x) := Heap.get?_push_at rfl rfl
  have hns₃ := (hns.keeps hk₂).keeps hk₃
  refine kxs_callWith (i := "ValueError.__init__") (x := x) rfl (evalArgs_plain (Calls.spliced_cons ?_))
  refine ldC (v := v) (hns₃) mf ?_ rfl kf T.fdb
  refine Calls.spliced_nil ⟨hu, ?_⟩
  refine call_mw (K := K) (hk₃ _ _ (X₂ _ _ hC)) (hk₃ _ _ hx₂) hu (one_size v) (fun h₄ hk₄ hx₄ => ?_)
  have hk14 : ∀ b o, b ≠ x → h₁.get? b = some o → h₄.get? b = some o := fun b o hb e => hk₄ b o hb (hk₃ _ _ (hk₂ _ _ e))
  have X₄ : K.In h₄ := fun a o e => hk14 a o (fun z => by rw [z, hnx] at e; cases e) (X₁ _ _ e)
  have hns₄ : h₄.Ns s.heap.objs.size (fun y => ([("self", .ref x), (f, v)] : List (Str × Value)).reverse.lookup y) := by
    obtain ⟨oL, es, ep, hL, r⟩ := hns
    exact ⟨oL, es, ep, hk14 _ _ hxL hL, r⟩
  show wpAt _ _ _ (execs _ _) _ _ _
  refine wpAt_of_wpAny (wpAny_execs_cons (plainObj_wpAny_Assign_Attribute ?_))
  refine ldC (v := v) hns₄ mf (ldC (v := .ref x) hns₄ mself ?_ rfl rfl (by decide)) rfl kf T.fdb
  refine set_plain X₄ (ox := _) (od := none) ⟨hx₄, rfl, rfl, trivial⟩ T.sa ?_
  refine exc_osa X₄ hx₄ hcl (show refsVE (.ref C :: bm) = true from hbm) rfl T.noN (fun h₅ tk₅ dx k₅ dn dne hx₅ hn₅ => ?_)
  show wpAny _ _ (execs _ _) _ _ _
  have z : s.heap.objs.size ≤ h₄.objs.size := by
    obtain ⟨oL, es, ep, hL, r⟩ := hns₄
    exact Nat.le_of_lt (Heap.lt_size hL)
  exact wpAny_execs_nil (hq h₅ tk₅ dx _ ⟨fun b o hb e => k₅ b o hb (hk14 b o hb (hk₁ b o e)), hx₅, Nat.le_trans z dn, dne, hn₅⟩)
theorem err_made (T : ErrTxt prog K mg x f C fI) (Md : L2.Mod K mg base) (bk : ∀ b o, base.get? b = some o → s.heap.get? b = some o) {v : Value} (X : K.In s.heap) (hlim : s.heap.NoLimit) (hroom : A.depth + 1 < recursionLimit)
    (hq : ∀ h' tk e d, OwnMade s.heap h' e C d f v → R (.ok (.ret (.ref e))) { s with heap := h', toks := tk }) :
    codeAny (model prog w) A (.call (.ref C) ⟨[v], []⟩) R s := by
  obtain ⟨nm, q, N, bs, bm, sn, sub, ab, col, dd, k0, k1, k2, k3, k5, hC, hbm⟩ := T.cls
  obtain ⟨hp, g, dr, tk, os⟩ := s
  have k : ∀ b o, hp.get? b = some o → ((hp.push (kdv_tup [v])).push (excO C hp.objs.size)).get? b = some o := fun b o e => Heap.get?_push_of_some _ (Heap.get?_push_of_some _ e)
  have hget : ((hp.push (kdv_tup [v])).push (excO C hp.objs.size)).get? (hp.objs.size + 1) = some (excO C hp.objs.size) := by heap_get
  have hnx : K.lookup (hp.objs.size + 1) = none := by
    cases e : K.lookup (hp.objs.size + 1) with
    | none => rfl
    | some o =>
      have z : hp.get? (hp.objs.size + 1) = some o := X _ _ e
      exact absurd (Nat.lt_of_succ_lt (Heap.lt_size z)) (Nat.lt_irrefl _)
  refine call_own F.excBase_ValueError (fun X => refsVE_contains X bm hbm) (X _ _ hC) (looks_findIn X T.iC) (fun self => bind_fn X self T.tC) (one_size v) ?_
  refine err_init (s := ⟨(hp.push (kdv_tup [v])).push (excO C hp.objs.size), g, dr, tk, os⟩) T Md (fun b o e => k b o (bk b o e)) (X.keeps k) (hlim.keeps k) hget hnx ?_ fun h' tk' dx t1 ⟨k', hx, dn, dne, hns⟩ => ?_
  · show A.depth + 1 < recursionLimit
    exact hroom
  · have old : ∀ b o, hp.get? b = some o → h'.get? b = some o := fun b o e => k' b o (Nat.ne_of_lt (Nat.lt_succ_of_lt (Heap.lt_size e))) (k b o e)
    have z : hp.objs.size + 1 + 1 ≤ dx := by
      first
        | (simpa only [Heap.size_push] using dn)
        | exact dn
        | (have q := dn; rw [Heap.size_push, Heap.size_push] at q; exact q)
    exact ⟨rfl, hq h' tk' (hp.objs.size + 1) dx ⟨old, Nat.le_succ _, ⟨_, _, hx, rfl, rfl, rfl, rfl⟩, Nat.le_trans (Nat.le_trans (Nat.le_succ _) (Nat.le_succ _)) z, dne, hns⟩⟩
end
end EX
end PySem
namespace L2
open PySem PySem.Spec PyProof.Rows
theorem relO_err {f : Str} {v : V} {v' : Value} (r : RelV v v') (g : Str) : RelO (List.lookup g [(f, v)]) (if g = f then some v' else none) := by
  by_cases hw : g = f
  · subst hw
    rw [if_pos rfl]
    have q : List.lookup g [(g, v)] = some v := by simp [List.lookup]
    rw [q]
    exact r
  · rw [if_neg hw]
    have qw : (g == f) = false := by simpa using hw
    have q2 : List.lookup g [(f, v)] = none := by simp [List.lookup, qw]
    rw [q2]
    trivial
section
variable {X : Cx} {C fI : Addr} {x f : Str}
/-- x(e) -/
def tMkErr (f : Str) (C : Addr) (ta : TA) : St → Hp → XK → Prop := fun σ H Q => ta σ H fun vs H1 => ∃ v, vs = [v] ∧ ∀ d, H1 d = none → Q (.ref C) (some d) (upd H1 d (.xd [(f, v)]))
theorem pmk_err {a : Expr} {ta : TA} {p pos : Pos} {k : Nat} (T : PySem.EX.ErrTxt X.prog X.K X.mg x f C fI) (hr : Room k X.A) (ha : PA X [a] ta) (hg : Gl X x) (hdb : (x == ("__debug__" : Str)) = false)
    (he : starEach (a :: []) X.env = (false, eval a X.env) :: starEach [] X.env := by rfl) (hpl : (backTo pos (starEach [] X.env)).any (·.1) = false := by rfl) :
    PMk X (.Call (.Name x p) [a] [] pos) (tMkErr f C ta) := by
  intro pins s σ H Q I h
  refine wpAny_Call_Name_kw (ld_glob I hg T.gC ?_ hdb)
  refine PySem.W.callWith_K (h₀ := X.base) I.ok.mod.kin T.kC (thn (ha.run pos pins s σ H _ I h) fun us s1 hh => ?_) he hpl
  obtain ⟨vs, H1, I1, r1, v, ev, q1⟩ := hh
  subst ev
  refine ⟨I1.kIn, ?_⟩
  cases r1 with
  | cons rv rn =>
    rename_i v' us'
    cases rn
    show wpAny _ _ (call (.ref C) [v']) _ _ _
    have hlim := I1.nolimit
    have bk1 := I1.bk
    obtain ⟨hp, g, dr, tk, os⟩ := s1
    refine wpAny_call (PySem.EX.err_made T I1.ok.mod bk1 I1.kIn hlim (by have := hr.dp; omega) fun h' tk' e d M => ?_)
    show MkP X pins σ Q (.ref e) ⟨h', g, dr, tk', os⟩
    obtain ⟨oe, fv, hoe, hc, hd, hdat, h1⟩ := M.obj
    have hns := M.ns
    obtain ⟨G', g1, g2⟩ := restrict h' fun b => decide (b ≠ e)
    have gk : ∀ b, b ≠ e → G'.get? b = h'.get? b := fun b hb => g1 b (decide_eq_true hb)
    have ge : G'.get? e = none := g2 e (by simp)
    have old : ∀ b o, hp.get? b = some o → G'.get? b = some o := fun b o q => (gk b (Nat.ne_of_lt (Nat.lt_of_lt_of_le (Heap.lt_size q) M.new))).trans (M.keep b o q)
    have ob : ObjOk X.prog X.w (upd H1 d (.xd [(f, v)])) G' d (.xd [(f, v)]) :=
      ⟨_, hns.at (fun o q => (gk d M.dne).trans q), fun f => relO_err rv f⟩
    have J : Inv X pins σ (upd H1 d (.xd [(f, v)])) ⟨G', g, dr, tk', os⟩ := I1.laid (t' := tk') old M.dbig ob
    refine ⟨e, oe, fv, ⟨G', g, dr, tk', os⟩, _, .ref C, some d, rfl, J, fun b o q => ?_, ge, hoe, ⟨hc, hd⟩, hdat, h1, ?_, rfl, I1.bare, raises_own T.exC T.tyC, q1 d (I1.hok.fresh M.dbig)⟩
    · by_cases hb : b = e
      · have q' : G'.get? b = some o := q
        rw [hb, ge] at q'; cases q'
      · exact (gk b hb).symm.trans q
    · rw [upd_ne (Ne.symm M.dne)]
      exact I1.hok.fresh M.new
/-- raise x(e) -/
def tRaiseErr (f : Str) (C : Addr) (W : WX) (ta : TA) : TS := fun _ σ H => tMkErr f C ta σ H fun cls d H' => W cls d σ H'
theorem ps_raiseErr {a : Expr} {ta : TA} {W : WX} {p pos pos2 : Pos} {k : Nat} (hc : X.calm = true) (T : PySem.EX.ErrTxt X.prog X.K X.mg x f C fI) (hr : Room k X.A) (tk : Takes X W) (ha : PA X [a] ta) (hg : Gl X x) (hdb : (x == ("__debug__" : Str)) = false)
    (he : starEach (a :: []) X.env = (false, eval a X.env) :: starEach [] X.env := by rfl) (hpl : (backTo pos (starEach [] X.env)).any (·.1) = false := by rfl) :
    PS X (.Raise (some (.Call (.Name x p) [a] [] pos)) none pos2) (tRaiseErr f C W ta) := ps_raise hc tk (pmk_err T hr ha hg hdb he hpl)
end
end L2
namespace DL
open PySem PySem.Spec PyProof.Rows L2
section
variable {X : Cx} {M : LK} {W : WX} {C fI : Addr} {x f : Str}
theorem notTbl_xd {fs : List (Str × V)} : notTbl (.xd fs) := fun ps z => by cases z
/-- raise x(e), x an own error of one field f -/
def dRaise (C : Addr) (f : Str) (fa : DTA) : DTS := fun k δ n => fa δ n (fun xs n1 => xs.length = 1 ∧ k.ex δ C [f] xs n1) k.ex
theorem ds_raise {st : Stmt} {fa : DTA} (h : PS X st (tRaiseErr f C W (liftA M W fa))) : PS X st (liftS M W (dRaise C f fa)) :=
  PSw h fun D₀ σ H ⟨pn, G, n, δ, k, R, hf, s⟩ => by
    refine ⟨pn, G, n, δ, _, k.ex, R, hf, fun G1 vs ds n1 H1 A1 R1 i1 h1 => ?_, s.xe⟩
    obtain ⟨hl, h1⟩ := h1
    match ds, hl with
    | [d], _ =>
      obtain ⟨v, rfl, iv⟩ := i1.one
      refine ⟨v, rfl, fun a ha => ?_⟩
      obtain ⟨R2, A2⟩ := R1.lay (o := .xd [(f, v)]) ha notTbl_xd
      exact s.ex _ σ δ C a [f] [d] n1 _ (R.tr A1 A2) R2 ⟨[(f, v)], upd_same, rfl, by simp only [List.map, IsL]; exact ⟨Is.up A2.ge d v iv, trivial⟩⟩ h1
end
end DL

set_option Elab.async false
set_option linter.all false
set_option maxRecDepth 100000
set_option maxHeartbeats 2000000
set_option autoImplicit false
/-! try: body / except X as e: suite / except Y as e: suite .. -/
namespace L2
open PySem PySem.Spec PyProof.Rows
abbrev HdL := List (Value × Nat × (Addr → Value → Option Addr → TS))
def offE (i : Nat) (D : Ends) : Ends := { nx := fun σ' H' => D.nx (σ'.set i none) H', rt := D.rt, bk := fun σ' H' => D.bk (σ'.set i none) H', ct := fun σ' H' => D.ct (σ'.set i none) H' }
/-- what the clauses wish of an exception of the body, one after the other -/
def wManyAs (K : PySem.W.Frag) (Wout : WX) (D : Ends) : HdL → WX
  | [] => Wout
  | (c, i, ts) :: r => fun cls d σ H => ∃ b, PySem.W.exmOne K cls c = some b ∧ (b = true → ∀ a, H a = none → ts a cls d (offE i D) (σ.set i (some (.ref a))) H) ∧ (b = false → wManyAs K Wout D r cls d σ H)
inductive HdsAs (X : Cx) : List ExceptHandler → HdL → Prop
  | nil : HdsAs X [] []
  | cons {x n : Str} {i : Nat} {c : Value} {ts : Addr → Value → Option Addr → TS} {b₀ : Stmt} {suite : List Stmt} {np pos' : Pos} {hds : List ExceptHandler} {l : HdL} (hi : X.N[i]? = some n) (hln : X.env.kindOf n = some .local) (hc : Names X x c)
      (hsu : ∀ (a : Addr) (oe : Obj) (cls : Value) (d : Option Addr) (pn : List (Addr × Obj)), Zc cls d oe → (∃ vs, oe.data = .fields vs) → PSs (X.suite a ((a, oe) :: pn)) (b₀ :: suite) (ts a cls d)) (r : HdsAs X hds l) :
      HdsAs X (.ExceptHandler (some (.Name x np)) (some n) (b₀ :: suite) pos' :: hds) ((c, i, ts) :: l)
section
variable {X : Cx} {body : List Stmt} {h₀ : ExceptHandler} {hds : List ExceptHandler} {l : HdL} {pos : Pos} {tb : WX → TS} {Wout : WX}
theorem ps_try_manyAs (hs : X.stack = X.env :: X.outer) (hf : X.env.frame = some X.env.locals) (hN : X.N.Nodup) (tk : Takes X Wout)
    (hb : ∀ (W : WX) (pn : List (Addr × Obj)) (xe : Value → Shared → Prop), Takes (X.tr pn xe) W → PassesOwn (model X.prog X.w) X.A X.env xe → PSs (X.tr pn xe) body (tb W))
    (hh : HdsAs X (h₀ :: hds) l) : PS X (.Try body (h₀ :: hds) [] [] pos) (fun D σ H => tb (wManyAs X.K Wout D l) D σ H) := by
  refine ⟨fun pins s σ H D I h => ?_⟩
  have ok := I.ok
  have hfr : X.A.frames = some (X.env :: X.outer) := by rw [ok.frames, hs]
  refine wpAny_Try_except ?_
  refine wpAny_mono ((hb (wManyAs X.K Wout D l) (X.pn ++ pins) (fun e s₁ => wpAny (model X.prog X.w) X.A (noteFrame e X.env) (fun _ s₂ => wpAny (model X.prog X.w) X.A (setFlight e none) (fun _ s₃ =>
    wpAny (model X.prog X.w) X.A (handleBy e X.env (h₀ :: hds)) (SP X pins D) X.xe s₃) X.xe s₂) X.xe s₁) (fun u s' xx => ?_) PassesOwn.looking).run [] s σ H D (I.toTry _) h) (fun f s1 hsp => ?_) (fun e s1 he => he)
  · -- the catch
    obtain ⟨a, B, sI, pins', σ', H', cls, d, rfl, J', nb, up, sky, na, os, ag, w⟩ := xx
    have J : Inv X pins σ' H' sI := J'.ofTry ok
    have sky' : Sky B (X.env :: X.outer) a (Zc cls d) X.env.locals s'.heap := by rw [← hs]; exact sky
    show wpAny (model X.prog X.w) X.A (noteFrame (.ref a) X.env) _ _ _
    refine Sky.land Zc.steady hfr hf sky' fun h3 fl3 up3 => ?_
    have J3 : Inv X pins σ' H' { s' with heap := h3 } := J.landed nb fl3.1 (up.trans up3) os ag
    obtain ⟨oe3, vs3, he3, hz3, hd3⟩ := fl3.there
    have notFr : ∀ {h : Heap} {o : Obj} {vs : Array Value}, h.FunFrames B (X.env :: X.outer) → h.get? a = some o → o.data = .fields vs → a ∉ frs (X.env :: X.outer) := fun {h o vs} ff e dd hm => by
      obtain ⟨_, o', e', hnf⟩ := ff.mem hm
      rw [e] at e'; cases e'
      exact hnf _ dd
    have nfr := notFr fl3.2.2.1 he3 hd3
    have nL : a ≠ X.env.locals := fun z => nfr (List.mem_filterMap.mpr ⟨X.env, List.mem_cons_self, by rw [hf, z]⟩)
    have nF : a ∉ X.fs := fun hm => by
      obtain ⟨e, he, q⟩ := List.mem_filterMap.mp hm
      exact nfr (List.mem_filterMap.mpr ⟨e, List.mem_cons_of_mem _ he, q⟩)
    have S3 := J3.suite he3 hd3 na nL nF
    have go : ∀ {hds' : List ExceptHandler} {l' : HdL}, HdsAs X hds' l' → wManyAs X.K Wout D l' cls d σ' H' →
        wpAny (model X.prog X.w) X.A (handleBy (.ref a) X.env hds') (SP X pins D) X.xe { s' with heap := h3 } := by
      intro hds' l' hk
      induction hk with
      | nil =>
        intro w
        refine wpAny_handleBy_nil ?_
        obtain ⟨k1, k2, k3, oe, vs, T, oT, ts', he, hz, hd, h1, hr⟩ := id fl3
        unfold PySem.passOn
        refine wpAny_bind (wpAny_field he hd h1 ?_)
        rw [if_neg (show ¬ ((Value.ref T == Value.none) = true) from by simp)]
        have fin : wpAny (model X.prog X.w) X.A (setFlight (.ref a) X.env.frame) (fun _ s4 => wpAny (model X.prog X.w) X.A (throw (.ref a) : Sem Flow) (SP X pins D) X.xe s4) X.xe { s' with heap := h3 } := by
          rw [hf]
          refine HandSPX.setFlight_upZ fl3 fun h4 hh4 up4 => wpAny_throw (tk _ _ ?_)
          exact ⟨a, B, sI, pins, σ', H', cls, d, rfl, J, nb, (up.trans up3).trans up4, .inr (.inr (by rw [hs]; exact hh4)), na, os, ag, w⟩
        first
          | exact wpAny_bind (wpAny_pure (wpAny_bind fin))
          | exact wpAny_bind fin
      | @cons x n i c ts b₀ suite np pos' hds2 l2 hi hln hc hsu r ih =>
        intro w
        obtain ⟨b, hb1, hyes, hno⟩ := w
        have hloc : Loc X.env.scope n := .inl hln
        refine wpAny_handleBy_cons (codeAny_handlers_test ?_) (by intro q; cases q)
        have LT : PySem.W.Looks (model X.prog X.w) h3 (typeOf (.ref a)) cls := fun A Q E s k q => wpAny_typeOf_ref (k _ _ he3) (by rw [hz3.1]; exact q)
        have LM := PySem.W.exm_one (M := model X.prog X.w) (J3.kIn) LT hb1
        have test : ∀ {Q : Value → Shared → Prop} {E : Value → Shared → Prop}, Q c { s' with heap := h3 } → wpAny (model X.prog X.w) (X.A.mark (some (.ref a))) (eval (.Name x np) X.env) Q E { s' with heap := h3 } := fun {Q E} q => by
          obtain ⟨hg, hdbg, hm | ⟨hm, hv, hnn⟩⟩ := hc
          · exact ld_glob (X := X.suite a ((a, oe3) :: (X.pn ++ pins))) S3 hg hm q hdbg
          · exact ld_blt (X := X.suite a ((a, oe3) :: (X.pn ++ pins))) S3 hg hm hv q hnn hdbg
        refine test (LM.here ?_)
        cases b with
        | true =>
          refine codeAny_handlers_suite_as ?_
          refine HandSPX.lands_againZ fl3 fun h4 fl4 up4 => ?_
          have J4 : Inv X pins σ' H' { s' with heap := h4 } := J.landed nb fl4.1 ((up.trans up3).trans up4) os ag
          obtain ⟨oe4, vs4, he4, hz4, hd4⟩ := fl4.there
          have S4 := J4.suite he4 hd4 na nL nF
          refine store_ok (X := X.suite a ((a, oe4) :: (X.pn ++ pins))) (v := .ref a) S4 hN hi hloc rfl (fun s5 S5 => ?_) (.inr hln)
          refine wpAny_mono ((hsu a oe4 cls d (X.pn ++ pins) hz4 ⟨_, hd4⟩).run [] s5 _ H' _ S5 (hyes rfl a na)) (fun f s6 hsp => ?_) (fun _ _ z => False.elim z)
          have end_ : ∀ {σ6 : St} {H6 : Hp} {Q : Shared → Prop}, Inv (X.suite a ((a, oe4) :: (X.pn ++ pins))) [] σ6 H6 s6 → (∀ s7, Inv X pins (σ6.set i none) H6 s7 → Q s7) →
              wpAny (model X.prog X.w) X.A (do bindName X.env n .none; unbindBehindTheSuite X.env n pos') (fun _ s7 => Q s7) X.xe s6 := fun {σ6 H6 Q} S6 hq => gone_ok (S6.unsuite ok) hN hi hln hq
          cases f with
          | next =>
            obtain ⟨σ6, H6, S6, q6⟩ := hsp
            exact end_ S6 fun s7 J7 => ⟨_, _, J7, q6⟩
          | brk =>
            obtain ⟨σ6, H6, S6, q6⟩ := hsp
            exact end_ S6 fun s7 J7 => ⟨_, _, J7, q6⟩
          | cont =>
            obtain ⟨σ6, H6, S6, q6⟩ := hsp
            exact end_ S6 fun s7 J7 => ⟨_, _, J7, q6⟩
          | ret u =>
            obtain ⟨v6, σ6, H6, S6, r6, q6⟩ := hsp
            exact end_ S6 fun s7 J7 => ⟨_, _, _, J7, r6, q6⟩
        | false =>
          show wpAny _ X.A (handleBy (.ref a) X.env hds2) _ _ _
          exact ih (hno rfl)
    exact go hh w
  · cases f with
    | next =>
      obtain ⟨σ', H', J', q⟩ := hsp
      exact wpAny_execs_nil ⟨σ', H', J'.ofTry ok, q⟩
    | brk =>
      obtain ⟨σ', H', J', q⟩ := hsp
      exact ⟨σ', H', J'.ofTry ok, q⟩
    | cont =>
      obtain ⟨σ', H', J', q⟩ := hsp
      exact ⟨σ', H', J'.ofTry ok, q⟩
    | ret u =>
      obtain ⟨v, σ', H', J', r, q⟩ := hsp
      exact ⟨v, σ', H', J'.ofTry ok, r, q⟩
end
end L2
namespace DL
open PySem PySem.Spec PyProof.Rows L2
section
variable {X : Cx} {M : LK} {W : WX}
abbrev DHs := List (Value × Nat × (Addr → Value → Option Addr → DTS))
def hdOff (i : Nat) (k : DEnds) : DEnds := { nx := fun δ n => k.nx (δ.set i none) n, rt := k.rt, bk := fun δ n => k.bk (δ.set i none) n, ct := fun δ n => k.ct (δ.set i none) n }
def dHds (K : PySem.W.Frag) (k : DEnds) : DHs → DX
  | [] => k.ex
  | (c, i, f) :: r => fun δ C ns ds n => ∃ b, PySem.W.exmOne K (.ref C) c = some b ∧ (b = true → ∀ a dd, f a (.ref C) (some dd) (hdOff i k) (δ.set i (some (.exc a C dd ns ds))) n) ∧ (b = false → dHds K k r δ C ns ds n)
/-- try / except .. as ..; W0: a suite raises nothing -/
def dTry (K : PySem.W.Frag) (tb : DTS) (l : DHs) : DTS := fun k δ n => tb { k with ex := dHds K k l } δ n
theorem Rep.put' {pn : Addr} {G H : Hp} {n : NS} {σ : L2.St} {δ : DEnv} {i : Nat} (R : Rep M pn G n σ δ H) : Rep M pn G n (σ.set i none) (δ.set i none) H := R.wipe (vs := [i])
theorem hds_ok {pn : Addr} {G H : Hp} {D₀ : Ends} {k : DEnds} (s : SEnd M W pn G H D₀ k) {σ0 : L2.St} {δ0 : DEnv} {n0 : NS} (R0 : Rep M pn G n0 σ0 δ0 H) : ∀ (l : DHs) (G' : Hp) (σ' : L2.St) (δ' : DEnv) (C a : Addr) (ns : List Str) (ds : List D) (n' : NS) (H' : Hp), Adv pn G H G' H' → Rep M pn G' n' σ' δ' H' → XIs M G' a ns ds → dHds M.L.K k l δ' C ns ds n' →
    wManyAs M.L.K W D₀ (l.map fun p => (p.1, p.2.1, fun a cls d => liftS M W0 (p.2.2 a cls d))) (.ref C) (some a) σ' H'
  | [], G', σ', δ', C, a, ns, ds, n', H', A', R', hx, h => s.ex G' σ' δ' C a ns ds n' H' A' R' hx h
  | (c, i, f) :: r, G', σ', δ', C, a, ns, ds, n', H', A', R', hx, h => by
    obtain ⟨b, h1, h2, h3⟩ := h
    refine ⟨b, h1, fun hb a0 ha0 => ?_, fun hb => hds_ok s R0 r G' σ' δ' C a ns ds n' H' A' R' hx (h3 hb)⟩
    have s' := s.on R0 A'
    have hi : Is M G' (.ref a0) (.exc a0 C a ns ds) := by
      simp only [Is]
      exact ⟨trivial, hx⟩
    refine ⟨pn, G', n', _, hdOff i k, R'.put hi, h2 hb a0 a, ?_⟩
    exact ⟨fun G2 σ2 δ2 n2 H2 A2 R2 h => s'.nx G2 _ _ n2 H2 A2 R2.put' h, s'.rt, fun G2 σ2 δ2 n2 H2 A2 R2 h => s'.bk G2 _ _ n2 H2 A2 R2.put' h, fun G2 σ2 δ2 n2 H2 A2 R2 h => s'.ct G2 _ _ n2 H2 A2 R2.put' h, fun G2 σ2 δ2 C2 a2 ns2 ds2 n2 H2 A2 R2 _ h => h.elim⟩
theorem ds_try {body : List Stmt} {h₀ : ExceptHandler} {hds : List ExceptHandler} {l : DHs} {pos : Pos} {tb : DTS} (hK : X.K = M.L.K) (hs : X.stack = X.env :: X.outer) (hf : X.env.frame = some X.env.locals) (hN : X.N.Nodup) (tk : Takes X W)
    (hb : ∀ (W' : WX) (pn : List (Addr × Obj)) (xe : Value → Shared → Prop), Takes (X.tr pn xe) W' → PassesOwn (model X.prog X.w) X.A X.env xe → PSs (X.tr pn xe) body (liftS M W' tb))
    (hh : HdsAs X (h₀ :: hds) (l.map fun p => (p.1, p.2.1, fun a cls d => liftS M W0 (p.2.2 a cls d)))) : PS X (.Try body (h₀ :: hds) [] [] pos) (liftS M W (dTry M.L.K tb l)) :=
  PSw (ps_try_manyAs (tb := fun W' => liftS M W' tb) hs hf hN tk hb hh) fun D₀ σ H ⟨pn, G, n, δ, k, R, hf, s⟩ => by
    rw [hK]
    exact ⟨pn, G, n, δ, _, R, hf, ⟨s.nx, s.rt, s.bk, s.ct, fun G' σ' δ' C a ns ds n' H' A' R' hx h => hds_ok s R l G' σ' δ' C a ns ds n' H' A' R' hx h⟩⟩
/-- e.f, e the exception that the suite holds -/
def dXf (a : Addr) (cls : Value) (d : Option Addr) (C : Addr) (f : Str) (te : DTE) : DTE := fun δ n q e => te δ n (fun x n1 => match x with
  | .exc a' C' dd ns xs => (a' = a ∧ C' = C ∧ cls = .ref C ∧ d = some dd) ∧ ∃ v, (ns.zip xs).lookup f = some v ∧ q v n1
  | _ => False) e
theorem xd_look {G : Hp} {f : Str} : ∀ {fs : List (Str × V)} {xs : List D} {d : D}, IsL M G (fs.map (·.2)) xs → ((fs.map (·.1)).zip xs).lookup f = some d → ∃ v, fs.lookup f = some v ∧ Is M G v d
  | [], _, d, _, h => by simp at h
  | (g, v) :: fs, [], d, _, h => by simp at h
  | (g, v) :: fs, x :: xs, d, hi, h => by
    simp only [List.map_cons, IsL] at hi
    simp only [List.map_cons, List.zip_cons_cons, List.lookup] at h ⊢
    cases e : f == g with
    | true =>
      rw [e] at h
      cases h
      exact ⟨v, rfl, hi.1⟩
    | false =>
      rw [e] at h
      exact xd_look hi.2 h
theorem dp_xf {e : Expr} {a C : Addr} {cls : Value} {d : Option Addr} {f : Str} {te : DTE} (h : PE X e (tXf a cls d C f (liftE M W te))) : PE X e (liftE M W (dXf a cls d C f te)) :=
  PEw h fun σ H Q ⟨pn, G, n, δ, q, e, R, hf, hQ, hX⟩ => by
    refine ⟨pn, G, n, δ, _, e, R, hf, fun G1 v x n1 H1 A1 R1 i1 h1 => ?_, hX⟩
    cases x with
    | exc a' C' dd ns xs =>
      obtain ⟨⟨rfl, rfl, hc, hd⟩, w, hl, h1⟩ := h1
      simp only [Is] at i1
      obtain ⟨rfl, fs, g1, rfl, g3⟩ := i1
      obtain ⟨u, hu, iu⟩ := xd_look g3 hl
      exact ⟨rfl, hc, dd, fs, u, hd, R1.ex _ _ g1, hu, hQ G1 u w n1 H1 A1 R1 iu h1⟩
    | _ => exact h1.elim
end
end DL

set_option Elab.async false
set_option linter.all false
set_option maxRecDepth 100000
set_option maxHeartbeats 2000000
set_option autoImplicit false
/-! isinstance of a caught error that bears an own dict -/
namespace L2
open PySem PySem.Spec PyProof.Rows
def rIsED (K : PySem.W.Frag) (a : Addr) (cls : Value) (d : Option Addr) : List V → Hp → VK → Prop := fun xs H Q => ∃ (D dd : Addr) (fs : List (Str × V)) (c : V) (cv : Value) (b : Bool), xs = [.ref a, c] ∧ cls = .ref D ∧ d = some dd ∧ H dd = some (.xd fs) ∧ ExcC K D ∧ (∀ u, RelV c u → u = cv) ∧ PySem.W.kitOne K (.ref D) cv = some b ∧ Q (.bl b) H
theorem call_isED {X : Cx} {a : Addr} {oe : Obj} {cls : Value} {d : Option Addr} {pn : List (Addr × Obj)} (hz : Zc cls d oe) (hf : ∃ vs, oe.data = .fields vs) : CallR (X.suite a ((a, oe) :: pn)) (.builtin "isinstance") (rIsED X.K a cls d) := by
  intro pins s σ H xs us Q I r h
  obtain ⟨D, dd, fs, c, cv, b, rfl, rfl, rfl, hx, C, hcv, e, q⟩ := h
  cases r with
  | cons rx rr =>
    cases rr with
    | cons rt rr =>
      cases rr
      cases rx
      have ec := hcv _ rt
      subst ec
      obtain ⟨hget, _⟩ := I.pin (a, oe) (List.mem_append.mpr (.inl List.mem_cons_self))
      obtain ⟨vs, hv⟩ := hf
      obtain ⟨mA, hns, hr⟩ := (show ObjOk X.prog X.w H s.heap dd (.xd fs) from I.hok dd _ hx)
      obtain ⟨od, ho, hl⟩ := lookIn_ns hns
      have J : PySem.W.InstAt s.heap a oe D (some od) := by
        obtain ⟨oc, od', oda, osl⟩ := oe
        obtain ⟨h1, h2⟩ := hz
        dsimp only at h1 h2 hv
        subst h1 h2 hv
        exact ⟨hget, rfl, rfl, ho⟩
      obtain ⟨cd, hc, _⟩ := PySem.W.any_some C.hd
      exact PySem.W.kia_one (PySem.W.kitx_exc (by rw [hc]; rfl) C.hg C.hk C.hs C.ha C.hn C.ht C.hm) I.kIn J e (fun z => nomatch z) fun tk => ⟨.bl b, H, I.kept (t' := tk) fun _ _ z => z, rfl, q⟩
end L2
namespace DL
open PySem PySem.Spec PyProof.Rows L2
section
variable {X : Cx} {M : LK} {W : WX}
def gIsE (K : PySem.W.Frag) (a : Addr) (cls : Value) (d : Option Addr) : GC := fun xs n q => match xs with
  | [.exc a' C dd ns ys, c] => (a' = a ∧ cls = .ref C ∧ d = some dd ∧ ExcC K C) ∧ ∃ cv b, clsD c = some cv ∧ PySem.W.kitOne K (.ref C) cv = some b ∧ q (.bl b) n
  | _ => False
theorem drc_isE {a : Addr} {cls : Value} {d : Option Addr} : DRC M (rIsED M.L.K a cls d) (gIsE M.L.K a cls d) := by
  intro pn G n σ δ H vs xs q Q R iv h k
  unfold gIsE at h
  split at h
  · rename_i a' C dd ns ys c
    obtain ⟨v, v', rfl, iw, iw'⟩ := iv.two
    obtain ⟨⟨rfl, rfl, rfl, hC⟩, cv, b, hc, hb, h⟩ := h
    simp only [Is] at iw
    obtain ⟨rfl, fs, h1, _⟩ := iw
    exact ⟨C, dd, fs, v', cv, b, rfl, rfl, rfl, R.ex _ _ h1, hC, fun u ru => (clsD_ok hc iw').eq ru, hb, k G _ _ n H Adv.refl R (by simp only [Is]) h⟩
  · exact h.elim
end
end DL

set_option Elab.async false
set_option linter.all false
set_option maxRecDepth 100000
set_option maxHeartbeats 2000000
set_option autoImplicit false
/-! told(lambda: e): what the lambda raises is wished for at the slots of the def that calls it. -/
namespace LamX
open PySem PySem.Spec PyProof.Rows L2
section
variable {X : Cx} {pins : List (Addr × Obj)} {σ : L2.St} {H : Hp} {s : Shared}
theorem pe_actS {CXg : CXT} {Eg : XK} {Ng : List Str} {qg : Str} {sg : Scope} {g f c' : Addr} {cdg pm ctv : Value} {params : Arguments} {body : Expr} {scope : Scope} {k i : Nat} {a : Str} {pn : List (Addr × Obj)} {xe : Value → Shared → Prop} {W : WX} {t : XK → TE} {p1 p2 : Pos}
    (I : Inv X pins σ H s) (L : LamS X.env.scope scope) (hf : s.heap.get? f = some (PySem.W.kla_obj "<lambda>" (X.env.qual ++ "<lambda>") params body scope (cloFrom X.env.cells scope.names []) pm c' ctv)) (hfn : H f = none) (hfr : f ∉ frs X.stack)
    (hbind : bindArgs (PySem.W.kla_fn "<lambda>" (X.env.qual ++ "<lambda>") params body scope (cloFrom X.env.cells scope.names []) pm (.ref c') ctv) ⟨[], []⟩ = pure [])
    (tk : Takes ((cxOf CXg X.prog X.w X.K X.mg X.base Ng qg sg g cdg X.A X.stack s H Eg).tr pn xe) W) (hr : Room (k + 1) (X.A.deeper (envOfC qg sg s.heap.objs.size g cdg)))
    (hbody : ∀ (A : Around) (outer : List Env) (s : Shared) (H : Hp) (E : XK), Room k (A.deeper (lamEnv X scope s.heap.objs.size f c')) → PE (lamCx X A outer s H E scope f c') body (t E))
    (hN : Ng[i]? = some a) (hv : Vis sg a) (hd : (a == ("__debug__" : Str)) = false := by decide) (hcd : (a == ("__classdict__" : Str)) = false := by decide) :
    PE ((cxOf CXg X.prog X.w X.K X.mg X.base Ng qg sg g cdg X.A X.stack s H Eg).tr pn xe) (.Call (.Name a p1) [] [] p2)
      (fun σZ HZ Q => σZ[i]? = some (some (.ref f)) ∧ HZ c' = some (CodeO c' (X.env.qual ++ "<lambda>")) ∧ t (WE W σZ) σ HZ Q) := by
  refine ⟨fun pinsZ sZ σZ HZ Q IZ h => ?_⟩
  obtain ⟨hs, hc, ht⟩ := h
  refine wpAny_Call_Name_kw (thn ((pe_var (pos := p1) (i := i) hN hv hd hcd).run pinsZ sZ σZ HZ (fun v H1 => v = .ref f ∧ H1 = HZ) IZ ⟨.ref f, hs, rfl, rfl⟩) fun u s1 ⟨v, H1, I1, r1, q1⟩ => ?_)
  obtain ⟨ev, eH⟩ := q1
  subst ev
  rw [eH] at I1
  obtain rfl : u = Value.ref f := r1
  have of1 : s1.heap.get? f = some (PySem.W.kla_obj "<lambda>" (X.env.qual ++ "<lambda>") params body scope (cloFrom X.env.cells scope.names []) pm c' ctv) := I1.base.keep f _ hf hfn hfr (fun z => nomatch (show f ∈ ([] : List Addr) from z))
  refine PySem.W.callWith_F0 ⟨_, _, _, _, of1⟩ ?_
  have un : Un (frs X.stack) [] H HZ s.heap s1.heap := I1.base
  obtain ⟨⟨oc, vs, tk', hoc, hdc, hvc⟩, _, _⟩ := I1.hok c' _ hc
  have rc : codeAny (model X.prog X.w) (X.A.deeper (envOfC qg sg s.heap.objs.size g cdg)) (.call (.ref f) ⟨[], []⟩) (CR (L2.CX X.prog X.w) (envOfC qg sg s.heap.objs.size g cdg :: X.stack) X.prog X.w HZ s1 Q (WE W σZ)) s1 := by
    refine PySem.W.kla_callFunE hr.depth of1 rfl L.co L.gen rfl ⟨c', oc, vs, tk', rfl, hoc, hdc, hvc⟩ ?_
    rw [hbind]
    refine wpAny_pure (wpAny_newFunctionEnv (fun y hy => (L.own y hy).2) (fun y hy => absurd hy (by simp)) (fun h₁ hns hsb => ⟨I1.nolimit.fresh _ hsb, ?_⟩) L.kind)
    show codeAny _ _ (.expr body (lamEnv X scope s1.heap.objs.size f c')) _ _
    have kp : ∀ b o, s1.heap.get? b = some o → h₁.get? b = some o := fun b o e => hsb.extBut b o (Nat.ne_of_lt (Heap.lt_size e)) (Heap.get?_push_of_some _ e)
    have J : Inv (lamCx X (X.A.deeper (envOfC qg sg s.heap.objs.size g cdg)) (envOfC qg sg s.heap.objs.size g cdg :: X.stack) s1 HZ (WE W σZ) scope f c') [] σ HZ { s1 with heap := h₁, toks := s1.toks + ([] : List (Str × Value)).length } :=
      lam_start2 I L I1.env0 hr.hd un hns kp
    refine PySem.W.kla_codeExpr (wpAny_mono ((hbody _ _ s1 HZ (WE W σZ) (hr.deeper _)).run [] _ _ HZ Q J ht) (fun v s' hq => ?_) fun e s' hq => hq)
    obtain ⟨w', H', J', rv, q⟩ := hq
    exact ⟨w', H', J'.os, J'.bare, J'.base, J'.hok, rv, q⟩
  have hx := passAt tk σZ
  refine wpAny_call (codeAny_mono rc fun r s' hq => ?_)
  cases r with
  | error e => exact hx pinsZ HZ s1 e s' I1 hq
  | ok fl =>
    cases fl with
    | ret u => exact I1.after hq
    | next => exact False.elim hq
    | brk => exact False.elim hq
    | cont => exact False.elim hq
end
def GivesS (X : Cx) (Ng : List Str) (x : Str) (sg : Scope) (g : Addr) (cdg : Value) (bg : List Stmt) (a : Str) (q : Str) (TT : (XK → Hp → VK → Prop) → Hp → VK → Prop) : Prop :=
  ∀ (f c' : Addr) (s : Shared) (H : Hp) (Q : VK) (tl : XK → Hp → VK → Prop),
    (∀ (W : WX) (pn : List (Addr × Obj)) (xe : Value → Shared → Prop) (p1 p2 : Pos), Takes ((cxOf C8.CX0 X.prog X.w X.K X.mg X.base Ng x sg g cdg X.A X.stack s H C8.E0).tr pn xe) W →
      PE ((cxOf C8.CX0 X.prog X.w X.K X.mg X.base Ng x sg g cdg X.A X.stack s H C8.E0).tr pn xe) (.Call (.Name a p1) [] [] p2) (fun σZ HZ Q => σZ[0]? = some (some (.ref f)) ∧ HZ c' = some (CodeO c' q) ∧ tl (WE W σZ) HZ Q)) →
    H c' = some (CodeO c' q) → TT tl H Q →
    ∃ t, PSs (cxOf C8.CX0 X.prog X.w X.K X.mg X.base Ng x sg g cdg X.A X.stack s H C8.E0).nox bg t ∧ t { nx := fun _ H' => Q .non H', rt := Q } (L2.start Ng [.ref f]) H
section
variable {X : Cx}
theorem pe_lamcallS {T : List (Addr × Str)} {TT : (XK → Hp → VK → Prop) → Hp → VK → Prop} {x a : Str} {g c P : Addr} {k : Nat} {pg : Arguments} {bg : List Stmt} {sg : Scope} {dV kV doc pm cdv ct oc : Value} {an od : Option Addr} {osl : Array (Option Value)} {Ng : List Str}
    {params : Arguments} {body : Expr} {scope : Scope} {t : XK → TE} {p lpos pos : Pos} (hg : Gl X x) (hm : X.mg x = some (.ref g)) (hk : PySem.W.keepIn X.K (.ref g) = true)
    (lk : X.K.lookup g = some ⟨oc, od, .func (PySem.W.fnOf x x pg bg sg dV kV doc pm an cdv ct), osl⟩) (hcg : PySem.W.codeIn X.K cdv x = true) (hb : L2.Binds X.K (PySem.W.fnOf x x pg bg sg dV kV doc pm an cdv ct) [a] []) (Sg : FnScope Ng [a] sg) (hNg : Ng[0]? = some a) (hva : Vis sg a)
    (hG : GivesS X Ng x sg g cdv bg a (X.env.qual ++ "<lambda>") TT)
    (TB : TabB X.base X.mg c P) (hcode : X.env.code = .ref c) (hmT : (P, X.env.qual ++ "<lambda>") ∈ T) (hu : ∀ p ∈ T, p.1 = P → p.2 = X.env.qual ++ "<lambda>") (hr : Room (k + 2) X.A) (L : LamS X.env.scope scope) (hdef : defaultsOf params X.env = ([], []))
    (hbind : ∀ (q : Str) (cl : List (Str × Addr)) (pm cv ctv : Value), bindArgs (PySem.W.kla_fn "<lambda>" q params body scope cl pm cv ctv) ⟨[], []⟩ = pure [])
    (hbody : ∀ (A : Around) (outer : List Env) (s : Shared) (H : Hp) (E : XK) (f c' : Addr), Room k (A.deeper (lamEnv X scope s.heap.objs.size f c')) → PE (lamCx X A outer s H E scope f c') body (t E))
    (hdb : (x == ("__debug__" : Str)) = false := by decide) (hd : (a == ("__debug__" : Str)) = false := by decide) (hcd : (a == ("__classdict__" : Str)) = false := by decide) :
    PE X (.Call (.Name x p) [.Lambda params body scope lpos] [] pos) (tLam T TT t) := by
  refine ⟨fun pins s σ H Q I h => ?_⟩
  obtain ⟨hT, h⟩ := h
  refine wpAny_Call_Name_kw (ld_glob I hg hm ?_ hdb)
  refine PySem.W.callWith_K (h₀ := X.base) I.ok.mod.kin hk ?_ (by rfl) (by rfl)
  show wpAny _ _ (spliced ((false, eval (.Lambda params body scope lpos) X.env) :: backTo pos (starEach [] X.env))) _ _ s
  refine Calls.spliced_cons (lam_make2 I TB hcode hmT hu hT hdef (L.has I.ok) fun f c' pm' ctv H1 s' I1 eN T1 hf hfn hfr hco => ?_)
  refine Calls.spliced_nil ⟨I1.kIn, ?_⟩
  have rc : codeAny (model X.prog X.w) X.A (.call (.ref g) ⟨[.ref f], []⟩) (CR C8.CX0 X.stack X.prog X.w H1 s' Q C8.E0) s' := by
    refine run_ofS (N := Ng) (ps := [a]) (us := [.ref f]) (vs := [.ref f]) lk hcg Sg hr I1.env0 (hb s' [.ref f] I1.kIn rfl) (.cons rfl .nil) rfl fun hr' => ?_
    obtain ⟨t', ht', hq'⟩ := hG f c' s' H1 Q (fun E H' Q' => t E σ H' Q') (fun W pn xe p1 p2 tk => pe_actS (i := 0) I1 L hf hfn hfr (hbind _ _ _ _ _) tk hr' (fun A outer s H E hr2 => hbody A outer s H E f c' hr2) hNg hva hd hcd) hco (h H1 eN T1)
    exact ⟨t', ht'.nox, hq'⟩
  refine wpAny_call (codeAny_mono rc fun r s2 hq => ?_)
  cases r with
  | error e => exact (show False from hq).elim
  | ok fl =>
    cases fl with
    | ret u => exact I1.after hq
    | next => exact False.elim hq
    | brk => exact False.elim hq
    | cont => exact False.elim hq
end
end LamX
namespace DL
open PySem PySem.Spec PyProof.Rows L2
/-- a thunk's reading: draws so far, what is wanted of its value, of its exception -/
abbrev DThunk := NS → (D → NS → Prop) → DY → Prop
/-- the promise of a def that calls what it got -/
abbrev DTold := DThunk → NS → (D → NS → Prop) → Prop
def TTd (M : LK) (told : DTold) : (XK → Hp → VK → Prop) → Hp → VK → Prop := fun tl H Q => ∃ (fb : DTE) (pn : Addr) (G : Hp) (n : NS) (σ : L2.St) (δ : DEnv) (qd : D → NS → Prop),
  (∀ (E : XK) (H' : Hp) (Q' : VK), liftE M (fun cls d _ H' => E cls d H') fb σ H' Q' → tl E H' Q') ∧ Rep M pn G n σ δ H ∧ IsE M G σ δ ∧ told (fun n' q' y => fb δ n' q' fun _ => y) n qd ∧
  ∀ G' v d n' H', Adv pn G H G' H' → Rep M pn G' n' [] [] H' → Is M G' v d → qd d n' → Q v H'
/-- a(), a in slot i -/
def dAct (i : Nat) (f c : Addr) (q : Str) (σ : List (Option V)) (δ : DEnv) (fb : DTE) : DTE := fun δZ n qd e => δZ[i]? = some (some (.thk f c q σ δ)) ∧ ∃ (q' : D → NS → Prop) (y' : DY), (fb δ n q' fun _ => y') ∧ (∀ d n', q' d n' → qd d n') ∧ ∀ C ns ds n', y' C ns ds n' → e δZ C ns ds n'
section
variable {X : Cx} {M : LK} {W : WX} {pn : Addr} {G G1 H H1 : Hp} {n : NS}
theorem IsE.len {G : Hp} : ∀ {δ : List (Option D)} {σ : List (Option V)}, IsE M G σ δ → σ.length = δ.length
  | [], [], _ => rfl
  | d :: ds, v :: vs, h => by
    simp only [IsE] at h
    simp only [List.length_cons, IsE.len h.2]
  | [], _ :: _, h => by simp only [IsE] at h
  | _ :: _, [], h => by simp only [IsE] at h
theorem IsE.get {G : Hp} : ∀ {δ : List (Option D)} {σ : List (Option V)} {i : Nat} {d : D}, IsE M G σ δ → δ[i]? = some (some d) → ∃ v, σ[i]? = some (some v) ∧ Is M G v d
  | [], [], i, d, _, e => by simp at e
  | x :: ds, v :: vs, 0, d, h, e => by
    simp only [IsE] at h
    simp at e
    subst e
    cases v with
    | none => simp only [IsO] at h; exact h.1.elim
    | some v => simp only [IsO] at h; exact ⟨v, rfl, h.1⟩
  | x :: ds, v :: vs, i + 1, d, h, e => by
    simp only [IsE] at h
    obtain ⟨u, h1, h2⟩ := IsE.get (i := i) h.2 (by simpa using e)
    exact ⟨u, by simpa using h1, h2⟩
  | [], _ :: _, _, _, h, _ => by simp only [IsE] at h
  | _ :: _, [], _, _, h, _ => by simp only [IsE] at h
theorem IsE.env {σ : L2.St} {δ : DEnv} (h : IsE M G σ δ) : EnvIs M G σ δ where
  len := h.len
  at_ := fun i d e => h.get e
theorem isE_of {G : Hp} : ∀ {δ : DEnv} {σ : L2.St}, σ.length = δ.length → (∀ (i : Nat) (d : D), δ[i]? = some (some d) → ∃ v, σ[i]? = some (some v) ∧ Is M G v d) → IsE M G σ δ
  | [], [], _, _ => by simp only [IsE]
  | d :: δ, v :: σ, hl, h => by
    simp only [IsE]
    refine ⟨?_, isE_of (by simpa using hl) (fun i d e => by simpa using h (i + 1) d (by simpa using e))⟩
    cases d with
    | none => cases v <;> simp only [IsO]
    | some d =>
      obtain ⟨u, h1, h2⟩ := h 0 d rfl
      have e : v = some u := by simpa using h1
      subst e
      simp only [IsO]
      exact h2
  | [], _ :: _, hl, _ => by simp at hl
  | _ :: _, [], hl, _ => by simp at hl
/-- the tables have grown -/
theorem Rep.grow {σ : L2.St} {δ : DEnv} (R : Rep M pn G n σ δ H) (e : LamX.ExtN H H1) (t : LamX.Tabs M.L.T H1) : Rep M pn G n σ δ H1 ∧ Adv pn G H G H1 := by
  refine ⟨⟨fun a o h => e a o (R.ex _ _ h) (R.nt _ _ h), ⟨?_, R.pen.fr⟩, t, R.nt, R.pe, fun a o h => ?_, R.env⟩, ⟨Ext.refl _⟩⟩
  · obtain ⟨la, ns, a, l, h1, h2⟩ := R.pen.ob
    exact ⟨la, ns, a, l, e _ _ h1 notTbl_dK, h2⟩
  · obtain ⟨u, h1, h2, h3⟩ := R.mu a o h
    exact ⟨u, e _ _ h1 h2.nt, h2, h3⟩
/-- an object that never changes becomes known -/
theorem Rep.know {σ : L2.St} {δ : DEnv} {c : Addr} {q : Str} (R : Rep M pn G n σ δ H) (h : H c = some (LamX.CodeO c q)) : ∃ G1, Rep M pn G1 n σ δ H ∧ Adv pn G H G1 H ∧ G1 c = some (LamX.CodeO c q) := by
  obtain ⟨kvs, hk⟩ := R.hp
  cases e : G c with
  | some u =>
    have := R.ex _ _ e
    rw [h] at this
    cases this
    exact ⟨G, R, Adv.refl, e⟩
  | none =>
    have np : pn ≠ c := fun z => by
      rw [z, h] at hk
      unfold LamX.CodeO at hk
      cases hk
    have A : Adv pn G H (upd G c (LamX.CodeO c q)) H := ⟨Ext.new e⟩
    refine ⟨upd G c (LamX.CodeO c q), ⟨fun a u ea => ?_, R.pen.grow np e, R.tab, fun a u ea => ?_, R.pe, fun a u ea => ?_, R.env.up A⟩, A, upd_same⟩
    · by_cases z : a = c
      · subst z; rw [upd_same] at ea; cases ea; exact h
      · rw [upd_ne z] at ea; exact R.ex _ _ ea
    · by_cases z : a = c
      · subst z; rw [upd_same] at ea; cases ea; exact LamX.codeO_ne
      · rw [upd_ne z] at ea; exact R.nt _ _ ea
    · obtain ⟨x, h1, h2, h3, h4⟩ := R.mu a u ea
      have z : a ≠ c := fun z => by
        rw [z, h] at h1
        cases h1
        exact h2.nc _ _ rfl
      exact ⟨x, h1, h2.up A.ge, by rw [upd_ne z]; exact h3, h4⟩
theorem dp_act {e : Expr} {i : Nat} {f c : Addr} {q : Str} {σ : L2.St} {δ : DEnv} {fb : DTE} {tl : XK → Hp → VK → Prop} (h : PE X e (fun σZ HZ Q => σZ[i]? = some (some (.ref f)) ∧ HZ c = some (LamX.CodeO c q) ∧ tl (WE W σZ) HZ Q))
    (htl : ∀ (E : XK) (H' : Hp) (Q' : VK), liftE M (fun cls d _ H' => E cls d H') fb σ H' Q' → tl E H' Q') : PE X e (liftE M W (dAct i f c q σ δ fb)) :=
  PEw h fun σZ HZ Q ⟨pn, G, n, δZ, qd, ex, R, ⟨h1, q', y', h2, hq, hy⟩, hQ, hX⟩ => by
    obtain ⟨v, g1, g2⟩ := R.env.get h1
    simp only [Is] at g2
    obtain ⟨rfl, g2, g3⟩ := g2
    refine ⟨g1, R.ex _ _ g2, htl _ _ _ ⟨pn, G, n, δ, q', fun _ => y', R.env_of g3.env, h2, fun G' v d n' H' A' R' i' h' => hQ G' v d n' H' A' (R.back R'.bare A') i' (hq d n' h'), fun G' C a ns ds n' H' A' R' hx q => ?_⟩⟩
    exact hX G' C a ns ds n' H' A' (R.back R'.bare A') hx (hy C ns ds n' q)
/-- a def that calls what it got, by its body -/
theorem gives_D {Ng : List Str} {x a q : Str} {sg : Scope} {g : Addr} {cdg : Value} {bg : List Stmt} {told : DTold} (tb : Addr → Addr → List (Option V) → DEnv → DTE → DTS) (hN : 1 ≤ Ng.length)
    (hb : ∀ (s : Shared) (H : Hp) (f c : Addr) (σ : List (Option V)) (δ : DEnv) (fb : DTE), (∀ (W : WX) (pn : List (Addr × Obj)) (xe : Value → Shared → Prop) (p1 p2 : Pos), Takes ((cxOf C8.CX0 X.prog X.w X.K X.mg X.base Ng x sg g cdg X.A X.stack s H C8.E0).tr pn xe) W →
      PE ((cxOf C8.CX0 X.prog X.w X.K X.mg X.base Ng x sg g cdg X.A X.stack s H C8.E0).tr pn xe) (.Call (.Name a p1) [] [] p2) (liftE M W (dAct 0 f c q σ δ fb))) →
      PSs (cxOf C8.CX0 X.prog X.w X.K X.mg X.base Ng x sg g cdg X.A X.stack s H C8.E0).nox bg (liftS M W0 (tb f c σ δ fb)))
    (hs : ∀ f c σ δ fb n qd, told (fun n' q' y => fb δ n' q' fun _ => y) n qd → tb f c σ δ fb { nx := fun _ n' => qd .non n', rt := qd } (startD Ng [.thk f c q σ δ]) n) :
    LamX.GivesS X Ng x sg g cdg bg a q (TTd M told) := by
  intro f c s H Q tl act hc h
  obtain ⟨fb, pn, G, n, σ, δ, qd, htl, R, hE, ht, hQ⟩ := h
  obtain ⟨G1, R1, A1, g1⟩ := R.know hc
  refine ⟨_, hb s H f c σ δ fb fun W pn xe p1 p2 tk => dp_act (act W pn xe p1 p2 tk) htl, ?_⟩
  have hi : IsL M G1 [.ref f] [.thk f c q σ δ] := by
    simp only [IsL, Is]
    exact ⟨⟨trivial, g1, IsE.up A1.ge δ σ hE⟩, trivial⟩
  refine ⟨pn, G1, n, _, _, R1.bare.start hi, hs f c σ δ fb n qd ht, ⟨fun G' σ' δ' n' H' A' R' h' => ?_, fun G' σ' δ' v d n' H' A' R' i' h' => ?_, fun G' σ' δ' n' H' A' R' h' => h'.elim, fun G' σ' δ' n' H' A' R' h' => h'.elim, fun G' σ' δ' C a ns ds n' H' A' R' _ h' => h'.elim⟩⟩
  · exact hQ G' .non .non n' H' (R.tr A1 A') R'.bare (by simp only [Is]) h'
  · exact hQ G' v d n' H' (R.tr A1 A') R'.bare i' h'
/-- told(lambda: e) -/
def dLam (told : DTold) (fb : DTE) : DTE := fun δ n q _ => told (fun n' q' y => fb δ n' q' fun _ => y) n q
theorem dp_lam {e : Expr} {told : DTold} {fb : DTE} (h : PE X e (LamX.tLam M.L.T (TTd M told) fun E => liftE M (fun cls d _ H' => E cls d H') fb)) : PE X e (liftE M W (dLam told fb)) :=
  PEw h fun σ H Q ⟨pn, G, n, δ, q, ex, R, h2, hQ, hX⟩ => by
    refine ⟨R.tab, fun H1 eN t1 => ?_⟩
    obtain ⟨R1, A1⟩ := R.grow eN t1
    exact ⟨fb, pn, G, n, σ, δ, q, fun _ _ _ h => h, R1, isE_of R1.env.len R1.env.at_, h2, fun G' v d n' H' A' R' i' h' => hQ G' v d n' H' (R.tr A1 A') (R1.back R' A') i' h'⟩
end
end DL

set_option Elab.async false
set_option linter.all false
set_option maxRecDepth 100000
set_option maxHeartbeats 2000000
set_option autoImplicit false
/-! The pen: a dict of three entries. -/
namespace DL
open PySem PySem.Spec PyProof.Rows L2
structure KeysOk (M : LK) : Prop where
  a : M.ka ≠ "cells"
  l : M.kl ≠ "cells"
  la : M.kl ≠ M.ka
section
variable {X : Cx} {M : LK} {W : WX} {pn : Addr} {G G1 H H1 : Hp} {n : NS} {σ : L2.St} {δ : DEnv}
abbrev penK (M : LK) (la : Addr) (a l : Int) : List (Key × V) := [(.inr "cells", .ref la), (.inr M.ka, .int a), (.inr M.kl, .int l)]
theorem penK_c {la : Addr} {a l : Int} : valV (penK M la a l) (.inr "cells") = some (.ref la) := valV_pos rfl
theorem penK_a (K : KeysOk M) {la : Addr} {a l : Int} : valV (penK M la a l) (.inr M.ka) = some (.int a) := by
  rw [valV_neg (fun z => K.a (Sum.inr.inj z).symm), valV_pos rfl]
theorem penK_l (K : KeysOk M) {la : Addr} {a l : Int} : valV (penK M la a l) (.inr M.kl) = some (.int l) := by
  rw [valV_neg (fun z => K.l (Sum.inr.inj z).symm), valV_neg (fun z => K.la (Sum.inr.inj z).symm), valV_pos rfl]
theorem putK_a (K : KeysOk M) {la : Addr} {a l b : Int} : putK (penK M la a l) (.inr M.ka) (.int b) = penK M la b l := by
  unfold putK
  rw [valV_any, penK_a K]
  have h1 : ¬ ((Sum.inr "cells" : Key) = .inr M.ka) := fun z => K.a (Sum.inr.inj z).symm
  have h2 : ¬ ((Sum.inr M.kl : Key) = .inr M.ka) := fun z => K.la (Sum.inr.inj z)
  simp only [Option.isSome_some, if_true, List.map_cons, List.map_nil, if_neg h1, if_neg h2]
theorem putK_l (K : KeysOk M) {la : Addr} {a l b : Int} : putK (penK M la a l) (.inr M.kl) (.int b) = penK M la a b := by
  unfold putK
  rw [valV_any, penK_l K]
  have h1 : ¬ ((Sum.inr "cells" : Key) = .inr M.kl) := fun z => K.l (Sum.inr.inj z).symm
  have h2 : ¬ ((Sum.inr M.ka : Key) = .inr M.kl) := fun z => K.la (Sum.inr.inj z).symm
  simp only [Option.isSome_some, if_true, List.map_cons, List.map_nil, if_neg h1, if_neg h2]
/-- the pen's numbers are changed -/
theorem Rep.pen_put {la : Addr} {a l a' l' : Int} {m : Nat} (R : Rep M pn G n σ δ H) (h : H pn = some (.dK (penK M la a l))) (ha : 0 ≤ a' ∧ a' ≤ m) (hl : 0 ≤ l') : Rep M pn G ⟨m, n.mu⟩ σ δ (upd H pn (.dK (penK M la a' l'))) ∧ Adv pn G H G (upd H pn (.dK (penK M la a' l'))) := by
  refine ⟨⟨fun b o e => ?_, ⟨?_, R.pen.fr⟩, tabs_upd R.tab h notTbl_dK (fun c q z => by unfold LamX.CodeO at z; cases z), R.nt, R.pe, fun b o e => ?_, R.env⟩, ⟨Ext.refl _⟩⟩
  · have : b ≠ pn := fun z => by rw [z, R.pen.fr] at e; cases e
    rw [upd_ne this]; exact R.ex _ _ e
  · obtain ⟨la2, ns, a2, l2, h1, h2, h3, h4, h5, h6, h7⟩ := R.pen.ob
    have e : la2 = la := by
      have z := h1.symm.trans h
      cases z
      rfl
    subst e
    exact ⟨la2, ns, a', l', upd_same, h2, h3, ha.1, ha.2, hl, h7⟩
  · obtain ⟨x, h1, h2, h3, h4⟩ := R.mu b o e
    exact ⟨x, by rw [upd_ne h4]; exact h1, h2, h3, h4⟩
def dPenC (cs : List Int) (f : DTE) : DTE := fun δ n q e => f δ n (fun x n1 => match x with | .pen => cs.length ≤ 63 → q (.lst (cs.map .int)) n1 | _ => False) e
def dPenA (f : DTE) : DTE := fun δ n q e => f δ n (fun x n1 => match x with | .pen => ∀ a : Int, 0 ≤ a → a ≤ n1.at_ → q (.int a) n1 | _ => False) e
def dPenL (f : DTE) : DTE := fun δ n q e => f δ n (fun x n1 => match x with | .pen => ∀ l : Int, 0 ≤ l → q (.int l) n1 | _ => False) e
theorem IsL.of_ints : ∀ {ns : List Int}, IsL M G (ns.map V.int) (ns.map D.int)
  | [] => by simp only [List.map_nil, IsL]
  | i :: ns => by
    simp only [List.map_cons, IsL, Is]
    exact ⟨trivial, IsL.of_ints⟩
theorem dp_penc {o i : Expr} {pos : Pos} {f : DTE} (hu : X.A.units + 1 < cLine) (ho : PE X o (liftE M W f)) (hi : PE X i (tC (.str "cells"))) (hs : NoSl i) : PE X (.Subscript o i pos) (liftE M W (dPenC M.cs f)) :=
  PEw (pe_dget hu ho hi hs) fun σ H Q ⟨pn, G, n, δ, q, e, R, hf, hQ, hX⟩ => by
    refine ⟨pn, G, n, δ, _, e, R, hf, fun G1 v x n1 H1 A1 R1 i1 h1 => ?_, hX⟩
    cases x with
    | pen =>
      simp only [Is] at i1
      subst i1
      obtain ⟨la, ns, a, l, g1, g2, g3, g4, g5, g6, rfl⟩ := R1.pen.ob
      have e := R1.pe
      subst e
      refine ⟨_, .ref la, rfl, .inl ⟨_, .inr "cells", .inl g1, rfl, penK_c.symm⟩, hQ G1 _ _ n1 H1 A1 R1 ?_ (h1 g3)⟩
      simp only [Is]
      exact ⟨la, _, rfl, g2, IsL.of_ints⟩
    | _ => exact h1.elim
theorem dp_pena {o i : Expr} {pos : Pos} {f : DTE} (K : KeysOk M) (hu : X.A.units + 1 < cLine) (ho : PE X o (liftE M W f)) (hi : PE X i (tC (.str M.ka))) (hs : NoSl i) : PE X (.Subscript o i pos) (liftE M W (dPenA f)) :=
  PEw (pe_dget hu ho hi hs) fun σ H Q ⟨pn, G, n, δ, q, e, R, hf, hQ, hX⟩ => by
    refine ⟨pn, G, n, δ, _, e, R, hf, fun G1 v x n1 H1 A1 R1 i1 h1 => ?_, hX⟩
    cases x with
    | pen =>
      simp only [Is] at i1
      subst i1
      obtain ⟨la, ns, a, l, g1, g2, g3, g4, g5, g6, rfl⟩ := R1.pen.ob
      have e := R1.pe
      subst e
      refine ⟨_, .int a, rfl, .inl ⟨_, .inr M.ka, .inl g1, rfl, (penK_a K).symm⟩, hQ G1 _ _ n1 H1 A1 R1 ?_ (h1 a g4 g5)⟩
      simp only [Is]
    | _ => exact h1.elim
theorem dp_penl {o i : Expr} {pos : Pos} {f : DTE} (K : KeysOk M) (hu : X.A.units + 1 < cLine) (ho : PE X o (liftE M W f)) (hi : PE X i (tC (.str M.kl))) (hs : NoSl i) : PE X (.Subscript o i pos) (liftE M W (dPenL f)) :=
  PEw (pe_dget hu ho hi hs) fun σ H Q ⟨pn, G, n, δ, q, e, R, hf, hQ, hX⟩ => by
    refine ⟨pn, G, n, δ, _, e, R, hf, fun G1 v x n1 H1 A1 R1 i1 h1 => ?_, hX⟩
    cases x with
    | pen =>
      simp only [Is] at i1
      subst i1
      obtain ⟨la, ns, a, l, g1, g2, g3, g4, g5, g6, rfl⟩ := R1.pen.ob
      have e := R1.pe
      subst e
      refine ⟨_, .int l, rfl, .inl ⟨_, .inr M.kl, .inl g1, rfl, (penK_l K).symm⟩, hQ G1 _ _ n1 H1 A1 R1 ?_ (h1 l g6)⟩
      simp only [Is]
    | _ => exact h1.elim
/-- pen[at] = v -/
def dPutA (fv fp : DTE) : DTS := fun k δ n => fv δ n (fun v n1 => fp δ n1 (fun x n2 => match x, v with | .pen, .int a => (0 ≤ a ∧ a ≤ n2.at_ + 1) ∧ k.nx δ ⟨n2.at_ + 1, n2.mu⟩ | _, _ => False) k.ex) k.ex
def dPutL (fv fp : DTE) : DTS := fun k δ n => fv δ n (fun v n1 => fp δ n1 (fun x n2 => match x, v with | .pen, .int l => 0 ≤ l ∧ k.nx δ n2 | _, _ => False) k.ex) k.ex
theorem ds_puta {o i value : Expr} {pos pos' : Pos} {fv fp : DTE} (K : KeysOk M) (hu : X.A.units + 1 < cLine) (ho : PE X o (liftE M W fp)) (hi : PE X i (tC (.str M.ka))) (hv : PE X value (liftE M W fv)) (hs : swapsWith value (some (.Subscript o i pos')) pos.line X.env = pure false := by rfl) :
    PS X (.Assign [.Subscript o i pos'] value pos) (liftS M W (dPutA fv fp)) :=
  PSw (ps_dput hu ho hi hv hs) fun D₀ σ H ⟨pn, G, n, δ, k, R, hf, s⟩ => by
    refine ⟨pn, G, n, δ, _, k.ex, R, hf, fun G1 v x n1 H1 A1 R1 i1 h1 => ?_, s.xe⟩
    refine ⟨pn, G1, n1, δ, _, k.ex, R1, h1, fun G2 u y n2 H2 A2 R2 i2 h2 => ?_, (s.on R A1).xe⟩
    split at h2
    · rename_i a
      simp only [Is] at i1 i2
      subst i1; subst i2
      obtain ⟨la, ns, a0, l, g1, g2, g3, g4, g5, g6, rfl⟩ := R2.pen.ob
      have e := R2.pe
      subst e
      obtain ⟨R3, A3⟩ := R2.pen_put (m := n2.at_ + 1) g1 (a' := a) (by simpa using h2.1) g6
      refine ⟨_, _, rfl, .inl ⟨_, .inr M.ka, g1, rfl, (by show 3 < sizeLine; decide), by rw [putK_a K]⟩, s.nx _ _ _ _ _ (R.tr (R.tr A1 A2) A3) R3 h2.2⟩
    · exact h2.elim
theorem ds_putl {o i value : Expr} {pos pos' : Pos} {fv fp : DTE} (K : KeysOk M) (hu : X.A.units + 1 < cLine) (ho : PE X o (liftE M W fp)) (hi : PE X i (tC (.str M.kl))) (hv : PE X value (liftE M W fv)) (hs : swapsWith value (some (.Subscript o i pos')) pos.line X.env = pure false := by rfl) :
    PS X (.Assign [.Subscript o i pos'] value pos) (liftS M W (dPutL fv fp)) :=
  PSw (ps_dput hu ho hi hv hs) fun D₀ σ H ⟨pn, G, n, δ, k, R, hf, s⟩ => by
    refine ⟨pn, G, n, δ, _, k.ex, R, hf, fun G1 v x n1 H1 A1 R1 i1 h1 => ?_, s.xe⟩
    refine ⟨pn, G1, n1, δ, _, k.ex, R1, h1, fun G2 u y n2 H2 A2 R2 i2 h2 => ?_, (s.on R A1).xe⟩
    split at h2
    · rename_i l'
      simp only [Is] at i1 i2
      subst i1; subst i2
      obtain ⟨la, ns, a0, l, g1, g2, g3, g4, g5, g6, rfl⟩ := R2.pen.ob
      have e := R2.pe
      subst e
      obtain ⟨R3, A3⟩ := R2.pen_put (m := n2.at_) g1 (l' := l') ⟨g4, g5⟩ h2.1
      refine ⟨_, _, rfl, .inl ⟨_, .inr M.kl, g1, rfl, (by show 3 < sizeLine; decide), by rw [putK_l K]⟩, s.nx _ _ _ _ _ (R.tr (R.tr A1 A2) A3) R3 h2.2⟩
    · exact h2.elim
end
end DL

set_option Elab.async false
set_option linter.all false
set_option maxRecDepth 100000
set_option maxHeartbeats 2000000
set_option autoImplicit false
/-! The pen made, the law begun. -/
namespace DL
open PySem PySem.Spec PyProof.Rows L2
abbrev penKV (ka kl : Str) (la : Addr) (a l : Int) : List (Key × V) := [(.inr "cells", .ref la), (.inr ka, .int a), (.inr kl, .int l)]
/-- the pen of a script of at most 63 numbers -/
def spPen (K : PySem.W.Frag) (ka kl : Str) : Sp := fun vs H Q _ => ∃ (a : Addr) (ns : List Int), vs = [.ref a] ∧ SqL K H a (ns.map V.int) ∧ ns.length ≤ 63 ∧
  ∀ p sl la, H p = none → sl ≠ p → H sl = none → la ≠ p → la ≠ sl → H la = none → Q (.ref p) (upd (upd (upd (upd H p (.dK [])) sl (.lst (ns.map V.int))) la (.lst (ns.map V.int))) p (.dK (penKV ka kl la 0 0)))
def tPen (K : PySem.W.Frag) (ka kl : Str) : TS := tRet (tDisp [(tC (.str "cells"), tCB (fun xs H Q => ∃ p ys, xs = [.ref p] ∧ (SqL K H p ys ∨ SqT K H p ys) ∧ ∀ l, H l = none → Q (.ref l) (upd H l (.lst ys))) (tCons (tSl (rSlL K) (tVar 0) tNoPart (tPart (tC (.int 63)))) tNil)), (tC (.str ka), tC (.int 0)), (tC (.str kl), tC (.int 0))])
theorem upd_none {H : Hp} {a p : Addr} {o : HO} (h : H a = none) (hn : a ≠ p) : upd H p o a = none := by rw [upd_ne hn]; exact h
theorem none_upd {H : Hp} {a p : Addr} {o : HO} (h : upd H p o a = none) : a ≠ p ∧ H a = none := by
  by_cases z : a = p
  · rw [z, upd_same] at h; cases h
  · rw [upd_ne z] at h; exact ⟨z, h⟩
theorem merge3 {ka kl : Str} (h1 : ka ≠ "cells") (h2 : kl ≠ "cells") (h3 : kl ≠ ka) (la : Addr) : mergeK [] (penKV ka kl la 0 0) = penKV ka kl la 0 0 := by
  have e1 : ¬ ((Sum.inr "cells" : Key) = .inr ka) := fun z => h1 (Sum.inr.inj z).symm
  have e2 : ¬ ((Sum.inr "cells" : Key) = .inr kl) := fun z => h2 (Sum.inr.inj z).symm
  have e3 : ¬ ((Sum.inr ka : Key) = .inr kl) := fun z => h3 (Sum.inr.inj z).symm
  simp [mergeK, penKV, putK, e1, e2, e3]
theorem pen_pure {K : PySem.W.Frag} {ka kl x : Str} (h1 : ka ≠ "cells") (h2 : kl ≠ "cells") (h3 : kl ≠ ka) (vs : List V) (H : Hp) (Q : VK) (E : XK) (h : spPen K ka kl vs H Q E) : tPen K ka kl { nx := fun _ H' => Q .non H', rt := Q } (L2.start [x] vs) H := by
  obtain ⟨a, ns, rfl, hS, hl, hq⟩ := h
  have hcut : cutV (ns.map V.int) none (some 63) = ns.map V.int := by
    unfold cutV
    have : HT.sIx (ns.map V.int).length (ns.map V.int).length (some 63) = (ns.map V.int).length := by
      have := HT.sIx_nat (ns.map V.int).length (ns.map V.int).length 63
      rw [show ((63 : Nat) : Int) = 63 from rfl] at this
      rw [this, List.length_map]
      omega
    rw [this, HT.sIx_none, List.drop_zero, Nat.sub_zero, List.take_length]
  intro p hp
  refine ⟨.ref a, rfl, 63, rfl, a, ns.map V.int, rfl, Ext.seqL (Ext.new hp) hS, fun sl hsl => ?_⟩
  obtain ⟨n1, hsl'⟩ := none_upd hsl
  rw [hcut]
  refine ⟨sl, ns.map V.int, rfl, .inl (SqL.of upd_same), fun la hla => ?_⟩
  obtain ⟨n2, hla'⟩ := none_upd hla
  obtain ⟨n3, hla''⟩ := none_upd hla'
  refine ⟨by rw [upd_ne (Ne.symm n3), upd_ne (Ne.symm n1), upd_same], penKV ka kl la 0 0, rfl, (by show 3 ≤ 15; decide), ?_⟩
  rw [merge3 h1 h2 h3]
  exact hq p sl la hp n1 hsl' n3 n2 hla''
/-- the law's promise -/
def spLaw (K : PySem.W.Frag) (T : List (Addr × Str)) : Sp := fun vs H Q _ => ∃ (a : Addr) (ns : List Int), vs = [.ref a] ∧ ns.length ≤ 63 ∧ (∀ p ∈ T, H p.1 = some (.tbl #[])) ∧ SqL K H a (ns.map V.int) ∧ ∀ H', Q (.bl true) H'
abbrev MK (K : PySem.W.Frag) (T : List (Addr × Str)) (ka kl : Str) (pn : Addr) (cs : List Int) : LK := ⟨⟨K, T⟩, ka, kl, pn, cs⟩
def tLaw (K : PySem.W.Frag) (T : List (Addr × Str)) (ka kl : Str) (W : WX) (t : List Int → DTS) : TS := fun D σ H => ∃ pn cs, liftS (MK K T ka kl pn cs) W (t cs) D σ H
theorem pss_law {X : Cx} {b : List Stmt} {K : PySem.W.Frag} {T : List (Addr × Str)} {ka kl : Str} {W : WX} {t : List Int → DTS} (h : ∀ pn cs, PSs X b (liftS (MK K T ka kl pn cs) W (t cs))) : PSs X b (tLaw K T ka kl W t) :=
  ⟨fun pins s σ H D I ⟨pn, cs, q⟩ => (h pn cs).run pins s σ H D I q⟩
/-- the state in which the pen has been made -/
theorem Rep.first {K : PySem.W.Frag} {T : List (Addr × Str)} {ka kl : Str} {m : Nat} {H : Hp} {a p sl la : Addr} {ns : List Int} (hT : ∀ q ∈ T, H q.1 = some (.tbl #[])) (hl : ns.length ≤ 63) (hp : H p = none) (n1 : sl ≠ p) (hsl : H sl = none) (n2 : la ≠ p) (n3 : la ≠ sl) (hla : H la = none) :
    Rep (MK K T ka kl p ns) p (upd (fun _ => none) la (.lst (ns.map V.int))) ⟨0, fun _ => none⟩ (some (.ref a) :: some (.ref p) :: List.replicate m none) (none :: some .pen :: List.replicate m none)
      (upd (upd (upd (upd H p (.dK [])) sl (.lst (ns.map V.int))) la (.lst (ns.map V.int))) p (.dK (penKV ka kl la 0 0))) where
  ex := fun b o e => by
    by_cases z : b = la
    · rw [z, upd_same] at e
      rw [z, upd_ne n2, upd_same]
      exact e
    · rw [upd_ne z] at e; cases e
  pen := ⟨⟨la, ns, 0, 0, upd_same, upd_same, hl, by decide, by decide, by decide, rfl⟩, by rw [upd_ne (Ne.symm n2)]⟩
  tab := fun q hq => by
    have h0 := hT q hq
    have e1 : q.1 ≠ p := fun z => by rw [z, hp] at h0; cases h0
    have e2 : q.1 ≠ sl := fun z => by rw [z, hsl] at h0; cases h0
    have e3 : q.1 ≠ la := fun z => by rw [z, hla] at h0; cases h0
    exact LamX.TabS.nil (by rw [upd_ne e1, upd_ne e3, upd_ne e2, upd_ne e1]; exact h0)
  nt := fun b o e => by
    by_cases z : b = la
    · rw [z, upd_same] at e; cases e; exact notTbl_lst
    · rw [upd_ne z] at e; cases e
  pe := rfl
  mu := fun a o e => by cases e
  env := ⟨by simp, fun i d e => by
    match i with
    | 0 => simp at e
    | 1 =>
      simp at e
      subst e
      exact ⟨.ref p, rfl, by simp only [Is]⟩
    | i + 2 =>
      simp [List.getElem?_replicate] at e⟩
theorem law_pure {K : PySem.W.Frag} {T : List (Addr × Str)} {ka kl : Str} {W : WX} {WS : L2.St → XK} {N : List Str} {m : Nat} {t : List Int → DTS} (hN : N.length = m + 2) (ht : ∀ cs : List Int, cs.length ≤ 63 → t cs { nx := fun _ _ => False, rt := fun d _ => d = .bl true } (none :: some .pen :: List.replicate m none) ⟨0, fun _ => none⟩)
    (vs : List V) (H : Hp) (Q : VK) (E : XK) (h : spLaw K T vs H Q E) : tSeq (tAsg (tCallSD (spPen K ka kl) [] WS (tCons (tVar 0) tNil)) (gName 1)) (tLaw K T ka kl W t) { nx := fun _ H' => Q .non H', rt := Q } (L2.start N vs) H := by
  obtain ⟨a, ns, rfl, hl, hT, hS, hq⟩ := h
  have e0 : L2.start N [.ref a] = some (.ref a) :: none :: List.replicate m none := by
    unfold L2.start
    rw [hN]
    rfl
  rw [e0]
  refine ⟨.ref a, rfl, a, ns, rfl, hS, hl, fun p sl la hp n1 hsl n2 n3 hla => ?_⟩
  refine ⟨p, ns, p, _, ⟨0, fun _ => none⟩, _, _, Rep.first (a := a) hT hl hp n1 hsl n2 n3 hla, ht ns hl, ⟨fun _ _ _ _ _ _ _ h => h.elim, fun G' σ' δ' v d n' H' A' R' i' h' => ?_, fun _ _ _ _ _ _ _ h => h.elim, fun _ _ _ _ _ _ _ h => h.elim, fun _ _ _ _ _ _ _ _ _ _ _ _ h => h.elim⟩⟩
  subst h'
  simp only [Is] at i'
  subst i'
  exact hq _
end DL

set_option Elab.async false
set_option linter.all false
set_option maxRecDepth 100000
set_option maxHeartbeats 2000000
set_option autoImplicit false
/-! Defs of the module and their calls. -/
namespace DL
open PySem PySem.Spec PyProof.Rows L2
/-- a def of the module as the top has left it -/
structure DefT (K : PySem.W.Frag) (mg : Str → Option Value) (x : Str) (st : Stmt) (ps : List Str) : Prop where
  ex : ∃ f fd, Fun K x x st f fd ∧ mg x = some (.ref f) ∧ PySem.W.keepIn K (.ref f) = true ∧ Binds K fd ps []
/-- .. whose code object stands at c -/
structure DefC (K : PySem.W.Frag) (mg : Str → Option Value) (x : Str) (st : Stmt) (ps : List Str) (c : Addr) : Prop where
  ex : ∃ (f : Addr) (oc : Value) (od an : Option Addr) (osl : Array (Option Value)) (dV kV doc pm ct : Value), K.lookup f = some ⟨oc, od, .func (PySem.W.fnOf x x (defArgs st) (defBody st) (defScope st) dV kV doc pm an (.ref c) ct), osl⟩ ∧ PySem.W.codeIn K (.ref c) x = true ∧
    mg x = some (.ref f) ∧ PySem.W.keepIn K (.ref f) = true ∧ Binds K (PySem.W.fnOf x x (defArgs st) (defBody st) (defScope st) dV kV doc pm an (.ref c) ct) ps []
/-- a def that holds its promise -/
structure CalD (P : Program) (w : World) (K : PySem.W.Frag) (mg : Str → Option Value) (base : Heap) (M : LK) (k : Nat) (x : Str) (ps : List Str) (s : DSp) : Prop where
  ex : ∃ f fd, FnOk P w K mg base (L2.CX P w) k f fd ps (lift M ps.length s) ∧ mg x = some (.ref f) ∧ PySem.W.keepIn K (.ref f) = true ∧ Binds K fd ps []
theorem CalD.of {P : Program} {w : World} {mg : Str → Option Value} {base : Heap} {M : LK} {x : Str} {st : Stmt} {N ps : List Str} {k : Nat} {s : DSp} (D : DefT M.L.K mg x st ps) (S : FnScope N ps (defScope st)) (t : DTS)
    (hb : ∀ (f : Addr) (cdv : Value) (A : Around) (outer : List Env) (s0 : Shared) (H : Hp) (E : XK), Room k (A.deeper (envOfC x (defScope st) s0.heap.objs.size f cdv)) →
      PSs (cxOf (L2.CX P w) P w M.L.K mg base N x (defScope st) f cdv A outer s0 H E) (defBody st) (liftS M (fun cls d _ H' => E cls d H') t))
    (hs : ∀ ds n q e, ds.length = ps.length → s ds n q e → t { nx := fun _ n' => q .non n', rt := q, ex := fun _ => e } (startD N ds) n) : CalD P w M.L.K mg base M (k + 1) x ps s := by
  obtain ⟨f, fd, F, hm, kp, b⟩ := D.ex
  exact ⟨f, fd, dfn F S t (hb f) hs, hm, kp, b⟩
theorem CalD.ofC {P : Program} {w : World} {mg : Str → Option Value} {base : Heap} {M : LK} {x : Str} {st : Stmt} {N ps : List Str} {k : Nat} {s : DSp} {c : Addr} (D : DefC M.L.K mg x st ps c) (S : FnScope N ps (defScope st)) (t : DTS)
    (hb : ∀ (f : Addr) (A : Around) (outer : List Env) (s0 : Shared) (H : Hp) (E : XK), Room k (A.deeper (envOfC x (defScope st) s0.heap.objs.size f (.ref c))) →
      PSs (cxOf (L2.CX P w) P w M.L.K mg base N x (defScope st) f (.ref c) A outer s0 H E) (defBody st) (liftS M (fun cls d _ H' => E cls d H') t))
    (hs : ∀ ds n q e, ds.length = ps.length → s ds n q e → t { nx := fun _ n' => q .non n', rt := q, ex := fun _ => e } (startD N ds) n) : CalD P w M.L.K mg base M (k + 1) x ps s := by
  obtain ⟨f, oc, od, an, osl, dV, kV, doc, pm, ct, lk, hcd, hm, kp, b⟩ := D.ex
  refine ⟨f, _, fn_of lk hcd S (fun vs H Q E h => lift_len h) fun A outer s0 H vs Q E hr h => ⟨_, hb f A outer s0 H E hr, ?_⟩, hm, kp, b⟩
  obtain ⟨pn, G, n, ds, q, e, R, hi, hk, hsp, hQ, hE⟩ := h
  refine ⟨pn, G, n, _, _, R.start hi, hs ds n q e hk hsp, ⟨fun G' σ' δ' n' H' A' R' h' => hQ G' .non .non n' H' A' R'.bare (by simp only [Is]) h', fun G' σ' δ' v d n' H' A' R' i' h' => hQ G' v d n' H' A' R'.bare i' h', fun G' σ' δ' n' H' A' R' h' => h'.elim, fun G' σ' δ' n' H' A' R' h' => h'.elim,
    fun G' σ' δ' C a ns xs n' H' A' R' x' h' => hE G' C a ns xs n' H' A' R'.bare x' h'⟩⟩
/-- a call of a def -/
def dCal (k : Nat) (s : DSp) (f : DTA) : DTE := fun δ n q e => f δ n (fun xs n1 => xs.length = k ∧ s xs n1 q (e δ)) e
section
variable {X : Cx} {M : LK} {W : WX} {x : Str} {p pos : Pos} {e : Expr} {es : List Expr} {f : DTA} {k j : Nat} {ps : List Str} {s : DSp}
theorem lift_cal (σ : L2.St) (H : Hp) (Q : VK) (h : liftE M W (dCal k s f) σ H Q) : tCallSD (lift M k s) [] (fun σ cls d H' => W cls d σ H') (liftA M W f) σ H Q := by
  obtain ⟨pn, G, n, δ, q, e, R, hf, hQ, hX⟩ := h
  refine ⟨pn, G, n, δ, _, e, R, hf, fun G1 vs ds n1 H1 A1 R1 i1 h1 => ?_, hX⟩
  show lift M k s (vs ++ []) H1 Q _
  rw [List.append_nil]
  exact ⟨pn, G1, n1, ds, q, e δ, R1.bare, i1, h1.1, h1.2, fun G2 v d n2 H2 A2 R2 i2 h2 => hQ G2 v d n2 H2 (R.tr A1 A2) (R1.back R2 A2) i2 h2, fun G2 C a ns xs n2 H2 A2 R2 x2 h2 => hX G2 C a ns xs n2 H2 (R.tr A1 A2) (R1.back R2 A2) x2 h2⟩
theorem dp_cal {m : Nat} (c : CalD X.prog X.w X.K X.mg X.base M k x ps s) (hr : Room j X.A) (hkj : k ≤ j) (tk : Takes X W) (hg : Gl X x) (ha : PA X (e :: es) (liftA M W f)) (hm : ps.length = m := by rfl) (hdb : (x == ("__debug__" : Str)) = false := by decide)
    (he : starEach (e :: es) X.env = (false, eval e X.env) :: starEach es X.env := by exact starEach_cons rfl) (hpl : (backTo pos (starEach es X.env)).any (·.1) = false := by rfl) : PE X (.Call (.Name x p) (e :: es) [] pos) (liftE M W (dCal m s f)) := by
  subst hm
  obtain ⟨g, fd, F, hm, kp, b⟩ := c.ex
  exact PEw (pe_callSD (dvs := []) (ds := []) F (hr.mono hkj) hg hm kp b .nil (fun σ => passAt tk σ) ha hdb he hpl) lift_cal
/-- .. without arguments -/
theorem dp_cal0 (c : CalD X.prog X.w X.K X.mg X.base M k x [] s) (hr : Room j X.A) (hkj : k ≤ j) (tk : Takes X W) (hg : Gl X x) (hdb : (x == ("__debug__" : Str)) = false := by decide) : PE X (.Call (.Name x p) [] [] pos) (liftE M W (dCal 0 s dNil)) := by
  obtain ⟨g, fd, F, hm, kp, b⟩ := c.ex
  have h : PE X (.Call (.Name x p) [] [] pos) (tCallSD (lift M 0 s) [] (fun σ cls d H' => W cls d σ H') tNil) := by
    refine ⟨fun pins s σ H Q I h => ?_⟩
    refine wpAny_Call_Name_kw (ld_glob I hg hm ?_ hdb)
    exact PySem.W.callWith_K0 I.kIn kp (run_fnSD (us := []) (vs := []) (dvs := []) F (hr.mono hkj) b .nil (passAt tk σ) I .nil h)
  refine PEw h fun σ H Q hl => ?_
  obtain ⟨pn, G, n, δ, q, ex, R, hf, hQ, hX⟩ := lift_cal σ H Q hl
  exact hQ G [] [] n H Adv.refl R (by simp only [IsL]) hf
/-- a name of the module that stands for a number, a text -/
theorem dp_gi {i : Int} (h : ∃ u, X.mg x = some u ∧ RelV (.int i) u) (hg : Gl X x) (hd : (x == ("__debug__" : Str)) = false := by decide) : PE X (.Name x pos) (liftE M W (dC (.int i))) := dp_c (C8.pe_gc hg h hd) fun _ => by simp only [Is]
theorem dp_gs {l : List Nat} (h : ∃ u, X.mg x = some u ∧ RelV (.str (S l)) u) (hg : Gl X x) (hd : (x == ("__debug__" : Str)) = false := by decide) : PE X (.Name x pos) (liftE M W (dC (.str l))) := dp_c (C8.pe_gc hg h hd) fun _ => by simp only [Is]
end
end DL

set_option Elab.async false
set_option linter.all false
set_option maxRecDepth 100000
set_option maxHeartbeats 2000000
set_option autoImplicit false
/-! An own error of two fields whose __init__ says super().__init__(f, g), above ValueError by way of other own classes: made, raised. -/
namespace PySem
namespace EY
open PySem.EX (ldC call_mw)
open PySem.W PySem.Calls PyProof.Rows PySem.HandSPX
/-! ### the text of __init__ -/
def iA (f g : Str) (p1 p2 p3 : Pos) : Arguments := { posonlyargs := [], args := [{ arg := "self", annotation := none, pos := p1 }, { arg := f, annotation := none, pos := p2 }, { arg := g, annotation := none, pos := p3 }], vararg := none, kwonlyargs := [], kw_defaults := [], kwarg := none, defaults := [] }
def iB (f g : Str) (a1 a2 a3 a4 a7 a5 a6 b1 b2 b3 b4 c1 c2 c3 c4 : Pos) : List Stmt :=
  [.Expr (.Call (.Attribute (.Call (.Name "super" a1) [] [] a2) "__init__" a3) [.Name f a4, .Name g a7] [] a5) a6, .Assign [.Attribute (.Name "self" b1) f b2] (.Name f b3) b4, .Assign [.Attribute (.Name "self" c1) g c2] (.Name g c3) c4]
def iS (f g : Str) : Scope := { kind := .function, names := [(PySem.Str.ofString "self", .local), (f, .local), (g, .local), (PySem.Str.ofString "__class__", .free), (PySem.Str.ofString "super", .globalImplicit)], isGenerator := false, isCoroutine := false, more := [] }
/-- what the written part says of the class x, at C, of its field f, and of its __init__, at fI -/
structure ErrTxt (P : Program) (K : Frag) (mg : Str → Option Value) (x f g : Str) (C fI : Addr) : Prop where
  gC : mg x = some (.ref C)
  cls : ∃ nm q N bs bm sn sub ab col dd k0 k1 k2 k3 k5, K.lookup C = some (excClassObj nm q C N bs bm true sn sub ab col dd k0 k1 k2 k3 k5 "ValueError.__new__") ∧ refsVE bm = true
  sa : findIn K (.ref C) "__setattr__" = some (some (.builtin "object.__setattr__"))
  ga : findIn K (.ref C) "__getattribute__" = some (some (.builtin "BaseException.__getattribute__"))
  gg : findIn K (.ref C) "__getattr__" = some none
  noN : findIn K (.ref C) f = some none
  noM : findIn K (.ref C) g = some none
  iC : findIn K (.ref C) "__init__" = some (some (.ref fI))
  tC : typeIn K (.ref fI) = some (.type "function")
  kC : keepIn K (.ref C) = true
  exC : subIn K (.ref C) (.type "BaseException") = some true
  veC : subIn K (.ref C) (.type "ValueError") = some true
  tyC : typeIn K (.ref C) = some (.type "type")
  hdC : hasDictIn K C = true
  sup : ks_superIn K C C "__init__" = some (some (.builtin "ValueError.__init__"))
  slf : mroIn K C (.ref C) = some true
  opq : nsIn K cStatics "thirdparty.any" = some none
  gS : mg "super" = none
  htop : (P.main.scope.names.lookup ("super" : Str)).isSome = false
  fself : (f == ("self" : Str)) = false
  fdb : (f == ("__debug__" : Str)) = false
  gself : (g == ("self" : Str)) = false
  gdb : (g == ("__debug__" : Str)) = false
  gf : (g == f) = false
  ks : (iS f g).names.lookup ("super" : Str) = some .globalImplicit
  kc : (iS f g).names.lookup ("__class__" : Str) = some .free
  fn : ∃ (oc : Value) (od : Option Addr) (doc pm : Value) (an : Option Addr) (cda cc : Addr) (ct : Value) (osl : Array (Option Value)) (qual : Str) (p1 p2 p3 a1 a2 a3 a4 a7 a5 a6 b1 b2 b3 b4 c1 c2 c3 c4 : Pos) (ccl : Value) (cdd : Option Addr) (vs : Array Value) (ccs : Array (Option Value)) (file : Str) (tf : Tok)
      (cl : Value) (cld : Option Addr) (csl : Array (Option Value)),
    K.lookup fI = some ⟨oc, od, .func (ksFn "__init__" qual (iA f g p1 p2 p3) (iB f g a1 a2 a3 a4 a7 a5 a6 b1 b2 b3 b4 c1 c2 c3 c4) (iS f g) .none .none doc pm an (.ref cda) ct cc), osl⟩ ∧ codeIn K (.ref cda) qual = true ∧
    K.lookup cda = some ⟨ccl, cdd, .fields vs, ccs⟩ ∧ vs[2]? = some (.str file tf) ∧ ((P.main.file : Str) == file) = true ∧ K.lookup cc = some ⟨cl, cld, .cell (some (.ref C)), csl⟩ ∧
    (∀ (a b c : Value), bindArgs (ksFn "__init__" qual (iA f g p1 p2 p3) (iB f g a1 a2 a3 a4 a7 a5 a6 b1 b2 b3 b4 c1 c2 c3 c4) (iS f g) .none .none doc pm an (.ref cda) ct cc) ⟨[a, b, c], []⟩ = pure [(("self" : Str), a), (f, b), (g, c)]) ∧
    (∀ env : Env, env.scope = iS f g → ∃ pl, eval (.Call (.Attribute (.Call (.Name "super" a1) [] [] a2) "__init__" a3) [.Name f a4, .Name g a7] [] a5) env = (do
      let ov ← attributeBase (.Call (.Name "super" a1) [] [] a2) "__init__" env (eval (.Call (.Name "super" a1) [] [] a2) env)
      standAt a3.atName
      let (gg, first) ← holding [ov] (getMethod ov "__init__" pl)
      callWith a5 gg first (backTo a5 (starEach [.Name f a4, .Name g a7] env)) []))
/-- what __init__ leaves of a fresh exception at x -/
structure InitEnd (h h' : Heap) (x C dx t1 : Addr) (f g : Str) (v u : Value) : Prop where
  keep : ∀ b o, b ≠ x → h.get? b = some o → h'.get? b = some o
  obj : h'.get? x = some { cls := .ref C, dict := some dx, data := .fields #[.ref t1, .none, .none, .none, .bool false, .none] }
  dbig : h.objs.size ≤ dx
  dne : dx ≠ x
  ns : h'.Ns1 dx (fun y => if y = g then some u else if y = f then some v else none)
/-- a made one -/
structure OwnMade (h h' : Heap) (e C d : Addr) (f g : Str) (v u : Value) : Prop where
  keep : ∀ b o, h.get? b = some o → h'.get? b = some o
  new : h.objs.size ≤ e
  obj : ∃ oe vs, h'.get? e = some oe ∧ oe.cls = .ref C ∧ oe.dict = some d ∧ oe.data = .fields vs ∧ vs[1]? = some .none
  dbig : h.objs.size ≤ d
  dne : d ≠ e
  ns : h'.Ns1 d (fun y => if y = g then some u else if y = f then some v else none)
section
variable {prog : Program} {w : World} {A : Around} {E : Value → Shared → Prop} {R : Result → Shared → Prop} {s : Shared} {K : Frag} {mg : Str → Option Value} {f g x : Str} {C fI : Addr} {base : Heap}
theorem two_size (v u : Value) : [v, u].length ≤ sizeLine := by
  rw [sizeLine_eq]
  exact (by decide : 2 ≤ 16777216)
theorem err_init (T : ErrTxt prog K mg x f g C fI) (Md : L2.Mod K mg base) (bk : ∀ b o, base.get? b = some o → s.heap.get? b = some o) {x t0 : Addr} {v u : Value} (X : K.In s.heap) (hlim : s.heap.NoLimit) (hx : s.heap.get? x = some (excO C t0)) (hnx : K.lookup x = none) (hroom : A.depth < recursionLimit)
    (hq : ∀ h' tk dx t1, InitEnd s.heap h' x C dx t1 f g v u → R (.ok (.ret .none)) { s with heap := h', toks := tk }) :
    codeAny (model prog w) A (.call (.ref fI) ⟨[.ref x, v, u], []⟩) R s := by
  obtain ⟨oc, od, doc, pm, an, cda, cc, ct, osl, qual, p1, p2, p3, a1, a2, a3, a4, a7, a5, a6, b1, b2, b3, b4, c1, c2, c3, c4, ccl, cdd, vs, ccs, file, tf, cl, cld, csl, ho, hcd, hcode, hvs, hfile, hcell, hbnd, hev⟩ := T.fn
  obtain ⟨nm, q, N, bs, bm, sn, sub, ab, col, dd, k0, k1, k2, k3, k5, hC, hbm⟩ := T.cls
  have hcl : clsIn K C = some { name := nm, bases := bs, mro := .ref C :: bm, ns := N, qualname := q, hasDict := true, slotNames := sn, subclasses := sub, abstract := ab, collection := col, hasDel := false } := by unfold clsIn; rw [hC] <;> rfl
  have fs := T.fself
  have sf : (("self" : Str) == f) = false := by
    cases e : (("self" : Str) == f) with
    | false => rfl
    | true =>
      rw [eq_of_beq e] at fs
      simp at fs
  have gs := T.gself
  have sg : (("self" : Str) == g) = false := by
    cases e : (("self" : Str) == g) with
    | false => rfl
    | true =>
      rw [eq_of_beq e] at gs
      simp at gs
  have gf := T.gf
  have fg : (f == g) = false := by
    cases e : (f == g) with
    | false => rfl
    | true =>
      rw [eq_of_beq e] at gf
      simp at gf
  have kself : (iS f g).names.lookup ("self" : Str) = some .local := rfl
  have kf : (iS f g).names.lookup f = some .local := by
    show List.lookup f [(PySem.Str.ofString "self", NameKind.local), (f, NameKind.local), (g, NameKind.local), (PySem.Str.ofString "__class__", NameKind.free), (PySem.Str.ofString "super", NameKind.globalImplicit)] = _
    have : (f == PySem.Str.ofString "self") = false := fs
    simp [List.lookup, this]
  have kg : (iS f g).names.lookup g = some .local := by
    show List.lookup g [(PySem.Str.ofString "self", NameKind.local), (f, NameKind.local), (g, NameKind.local), (PySem.Str.ofString "__class__", NameKind.free), (PySem.Str.ofString "super", NameKind.globalImplicit)] = _
    have : (g == PySem.Str.ofString "self") = false := gs
    simp [List.lookup, this, gf]
  have mself : (([(("self" : Str), .ref x), (f, v), (g, u)] : List (Str × Value)).reverse.lookup ("self" : Str)) = some (.ref x) := by
    simp [List.lookup, sf, sg]
  have mf : (([(("self" : Str), .ref x), (f, v), (g, u)] : List (Str × Value)).reverse.lookup f) = some v := by
    simp [List.lookup, fg]
  have mg' : (([(("self" : Str), .ref x), (f, v), (g, u)] : List (Str × Value)).reverse.lookup g) = some u := by
    simp [List.lookup]
  refine ks_codeAny_call_defAt (fd := ksFn "__init__" qual (iA f g p1 p2 p3) (iB f g a1 a2 a3 a4 a7 a5 a6 b1 b2 b3 b4 c1 c2 c3 c4) (iS f g) .none .none doc pm an (.ref cda) ct cc) (binds := [(("self" : Str), .ref x), (f, v), (g, u)]) hroom (X _ _ ho) rfl hlim (codeRec_of X hcd) rfl (BindsTo.of_eq (hbnd _ _ _)) ?hcell ?hloc (fun h₁ hns hk₁ => ?_) rfl rfl rfl
  case hcell =>
    intro y hy
    simp only [iS, List.mem_cons, List.not_mem_nil, or_false] at hy
    rcases hy with rfl | rfl | rfl | rfl | rfl <;> exact fun z => nomatch z
  case hloc =>
    intro y hy
    simp only [List.mem_cons, List.not_mem_nil, or_false] at hy
    rcases hy with rfl | rfl | rfl
    · exact kself
    · exact kf
    · exact kg
  have hxL : s.heap.objs.size ≠ x := Nat.ne_of_gt (Heap.lt_size hx)
  have X₁ : K.In h₁ := X.keeps hk₁
  have hx₁ := hk₁ _ _ hx
  have I₁ : InstAt h₁ x (excO C t0) C none := ⟨hx₁, rfl, rfl, trivial⟩
  obtain ⟨mb, hb1, hb2⟩ := Md.blt
  have bk₁ : ∀ b o, base.get? b = some o → h₁.get? b = some o := fun b o e => hk₁ b o (bk b o e)
  obtain ⟨oD, hD1, hD2⟩ : ∃ oD, h₁.get? C = some oD ∧ ∃ cd, oD.data = .cls cd := ⟨_, X₁ _ _ hC, _, rfl⟩
  obtain ⟨cdD, hD2⟩ := hD2
  obtain ⟨pl, hev⟩ := hev (callEnv (ksFn "__init__" qual (iA f g p1 p2 p3) (iB f g a1 a2 a3 a4 a7 a5 a6 b1 b2 b3 b4 c1 c2 c3 c4) (iS f g) .none .none doc pm an (.ref cda) ct cc) s.heap.objs.size fI) rfl
  refine ks_wpAt_execs_cons (ks_wpAt_Expr_any (ks_wpAt_MethodCall (pl := pl) ?_ hev))
  refine ks_wpAt_super_base (fd := ksFn "__init__" qual (iA f g p1 p2 p3) (iB f g a1 a2 a3 a4 a7 a5 a6 b1 b2 b3 b4 c1 c2 c3 c4) (iS f g) .none .none doc pm an (.ref cda) ct cc) T.ks T.kc (by decide) rfl (X₁ _ _ ho) rfl (ar := { arg := "self", annotation := none, pos := p1 }) rfl (cc := cda) rfl (X₁ _ _ hcode) rfl hvs hfile T.htop ?_
  refine ks_loadName_global rfl T.ks (loadGlobal_builtin (Md.glob.keeps bk₁) T.gS (hb1.keeps bk₁) ((hb2 "super" (by decide)).trans (by decide +kernel : bootBuiltins "super" = some (.type "super"))) ⟨rfl, ?_⟩)
  refine wpAny_loadName_free rfl T.kc (c := cc) (v := .ref C) rfl ⟨_, X₁ _ _ hcell, rfl⟩ ?_
  refine wpAny_loadName_local rfl rfl hns mself ?_
  refine ks_wpAny_isType_cls hD1 hD2 ⟨rfl, ?_⟩
  refine ks_wpAny_call_super hD1 hD2 I₁.at_ I₁.cls (fun c e => nomatch e) (looks_mroIn X₁ T.slf) (fun h₂ hso hk₂ => ?_)
  have X₂ : K.In h₂ := X₁.keeps hk₂
  have hx₂ := hk₂ _ _ hx₁
  have I₂ : InstAt h₂ x (excO C t0) C none := ⟨hx₂, rfl, rfl, trivial⟩
  have hI : Looks (model prog w) h₂ (isInstance (.ref x) (.type "ValueError")) true := I₂.type.andThen (looks_subIn X₂ T.veC)
  have hs := T.sup
  unfold ks_superIn at hs
  rw [hcl] at hs
  refine kxs_getMethod kxs_ValueError hso (looks_opaque X₂ T.opq) (l₀ := .ref C :: bm) (fun A Q E s k q => wpAny_bind ((looks_clsIn X₂ hcl) A _ E s k (wpAny_pure q))) rfl X₂ hs hI (ks_ne X₂ I₂ hcl) (by decide) ?_
  have hk₃ : ∀ b o, h₂.get? b = some o → (h₂.push (kxs_mw "ValueError.__init__" x)).get? b = some o := fun b o e => Heap.get?_push_of_some _ e
  have hu : (h₂.push (kxs_mw "ValueError.__init__" x)).get? h₂.objs.size = some (kxs_mw "ValueError.__init__" x) := Heap.get?_push_at rfl rfl
  have hns₃ := (hns.keeps hk₂).keeps hk₃
  refine kxs_callWith (i := "ValueError.__init__") (x := x) rfl (evalArgs_plain (Calls.spliced_cons ?_))
  rw [if_neg (by decide : ¬ (false = true))]
  have k0 : (callEnv (ksFn "__init__" qual (iA f g p1 p2 p3) (iB f g a1 a2 a3 a4 a7 a5 a6 b1 b2 b3 b4 c1 c2 c3 c4) (iS f g) .none .none doc pm an (.ref cda) ct cc) s.heap.objs.size fI).kindOf "self" = some .local := kself
  have k1 : (callEnv (ksFn "__init__" qual (iA f g p1 p2 p3) (iB f g a1 a2 a3 a4 a7 a5 a6 b1 b2 b3 b4 c1 c2 c3 c4) (iS f g) .none .none doc pm an (.ref cda) ct cc) s.heap.objs.size fI).kindOf f = some .local := kf
  have k7 : (callEnv (ksFn "__init__" qual (iA f g p1 p2 p3) (iB f g a1 a2 a3 a4 a7 a5 a6 b1 b2 b3 b4 c1 c2 c3 c4) (iS f g) .none .none doc pm an (.ref cda) ct cc) s.heap.objs.size fI).kindOf g = some .local := kg
  have k2 : (callEnv (ksFn "__init__" qual (iA f g p1 p2 p3) (iB f g a1 a2 a3 a4 a7 a5 a6 b1 b2 b3 b4 c1 c2 c3 c4) (iS f g) .none .none doc pm an (.ref cda) ct cc) s.heap.objs.size fI).scope.kind = .function := rfl
  have m0 : (fun y => ([("self", .ref x), (f, v), (g, u)] : List (Str × Value)).reverse.lookup y) "self" = some (.ref x) := mself
  have m1 : (fun y => ([("self", .ref x), (f, v), (g, u)] : List (Str × Value)).reverse.lookup y) f = some v := mf
  have m7 : (fun y => ([("self", .ref x), (f, v), (g, u)] : List (Str × Value)).reverse.lookup y) g = some u := mg'
  have n3 : (h₂.push (kxs_mw "ValueError.__init__" x)).Ns (callEnv (ksFn "__init__" qual (iA f g p1 p2 p3) (iB f g a1 a2 a3 a4 a7 a5 a6 b1 b2 b3 b4 c1 c2 c3 c4) (iS f g) .none .none doc pm an (.ref cda) ct cc) s.heap.objs.size fI).locals (fun y => ([("self", .ref x), (f, v), (g, u)] : List (Str × Value)).reverse.lookup y) := hns₃
  refine ldC (env := (callEnv (ksFn "__init__" qual (iA f g p1 p2 p3) (iB f g a1 a2 a3 a4 a7 a5 a6 b1 b2 b3 b4 c1 c2 c3 c4) (iS f g) .none .none doc pm an (.ref cda) ct cc) s.heap.objs.size fI)) (m := (fun y => ([("self", .ref x), (f, v), (g, u)] : List (Str × Value)).reverse.lookup y)) (v := v) n3 m1 ?_ k2 k1 T.fdb
  refine Calls.spliced_cons ?_
  rw [if_neg (by decide : ¬ (false = true))]
  refine ldC (env := (callEnv (ksFn "__init__" qual (iA f g p1 p2 p3) (iB f g a1 a2 a3 a4 a7 a5 a6 b1 b2 b3 b4 c1 c2 c3 c4) (iS f g) .none .none doc pm an (.ref cda) ct cc) s.heap.objs.size fI)) (m := (fun y => ([("self", .ref x), (f, v), (g, u)] : List (Str × Value)).reverse.lookup y)) (v := u) n3 m7 ?_ k2 k7 T.gdb
  refine Calls.spliced_nil ⟨hu, ?_⟩
  refine call_mw (K := K) (hk₃ _ _ (X₂ _ _ hC)) (hk₃ _ _ hx₂) hu (two_size v u) (fun h₄ hk₄ hx₄ => ?_)
  have hk14 : ∀ b o, b ≠ x → h₁.get? b = some o → h₄.get? b = some o := fun b o hb e => hk₄ b o hb (hk₃ _ _ (hk₂ _ _ e))
  have X₄ : K.In h₄ := fun a o e => hk14 a o (fun z => by rw [z, hnx] at e; cases e) (X₁ _ _ e)
  have hns₄ : h₄.Ns s.heap.objs.size (fun y => ([("self", .ref x), (f, v), (g, u)] : List (Str × Value)).reverse.lookup y) := by
    obtain ⟨oL, es, ep, hL, r⟩ := hns
    exact ⟨oL, es, ep, hk14 _ _ hxL hL, r⟩
  show wpAt _ _ _ (execs _ _) _ _ _
  refine wpAt_of_wpAny (wpAny_execs_cons (plainObj_wpAny_Assign_Attribute ?_))
  have n4 : h₄.Ns (callEnv (ksFn "__init__" qual (iA f g p1 p2 p3) (iB f g a1 a2 a3 a4 a7 a5 a6 b1 b2 b3 b4 c1 c2 c3 c4) (iS f g) .none .none doc pm an (.ref cda) ct cc) s.heap.objs.size fI).locals (fun y => ([("self", .ref x), (f, v), (g, u)] : List (Str × Value)).reverse.lookup y) := hns₄
  refine ldC (env := (callEnv (ksFn "__init__" qual (iA f g p1 p2 p3) (iB f g a1 a2 a3 a4 a7 a5 a6 b1 b2 b3 b4 c1 c2 c3 c4) (iS f g) .none .none doc pm an (.ref cda) ct cc) s.heap.objs.size fI)) (m := (fun y => ([("self", .ref x), (f, v), (g, u)] : List (Str × Value)).reverse.lookup y)) (v := v) n4 m1 ?_ k2 k1 T.fdb
  refine ldC (env := (callEnv (ksFn "__init__" qual (iA f g p1 p2 p3) (iB f g a1 a2 a3 a4 a7 a5 a6 b1 b2 b3 b4 c1 c2 c3 c4) (iS f g) .none .none doc pm an (.ref cda) ct cc) s.heap.objs.size fI)) (m := (fun y => ([("self", .ref x), (f, v), (g, u)] : List (Str × Value)).reverse.lookup y)) (v := .ref x) n4 m0 ?_ k2 k0 (by decide)
  refine set_plain X₄ (ox := _) (od := none) ⟨hx₄, rfl, rfl, trivial⟩ T.sa ?_
  refine exc_osa X₄ hx₄ hcl (show refsVE (.ref C :: bm) = true from hbm) rfl T.noN (fun h₅ tk₅ dx k₅ dn dne hx₅ hn₅ => ?_)
  have z : s.heap.objs.size ≤ h₄.objs.size := by
    obtain ⟨oL, es, ep, hL, r⟩ := hns₄
    exact Nat.le_of_lt (Heap.lt_size hL)
  have X₅ : K.In h₅ := fun a o e => k₅ a o (fun z => by rw [z, hnx] at e; cases e) (X₄ _ _ e)
  have hns₅ : h₅.Ns s.heap.objs.size (fun y => ([("self", .ref x), (f, v), (g, u)] : List (Str × Value)).reverse.lookup y) := by
    obtain ⟨oL, es, ep, hL, r⟩ := hns₄
    exact ⟨oL, es, ep, k₅ _ _ hxL hL, r⟩
  have wi : Within (fun y => if y = f then some v else (none : Option Value)) [f] := fun y hy => by
    by_cases q : y = f
    · rw [q]; exact List.mem_cons_self
    · simp [q] at hy
  obtain ⟨oD5, esD5, epD5, hoD5, hdD5, _⟩ := hn₅.count wi
  have nd : ∀ b o, s.heap.get? b = some o → b ≠ dx := fun b o e q => by
    have z1 : s.heap.objs.size ≤ dx := Nat.le_trans z dn
    exact absurd (Heap.lt_size e) (by rw [q]; exact Nat.not_lt.mpr z1)
  show wpAny _ _ (execs _ _) _ _ _
  refine wpAny_execs_cons (plainObj_wpAny_Assign_Attribute ?_)
  have n5 : h₅.Ns (callEnv (ksFn "__init__" qual (iA f g p1 p2 p3) (iB f g a1 a2 a3 a4 a7 a5 a6 b1 b2 b3 b4 c1 c2 c3 c4) (iS f g) .none .none doc pm an (.ref cda) ct cc) s.heap.objs.size fI).locals (fun y => ([("self", .ref x), (f, v), (g, u)] : List (Str × Value)).reverse.lookup y) := hns₅
  refine ldC (env := (callEnv (ksFn "__init__" qual (iA f g p1 p2 p3) (iB f g a1 a2 a3 a4 a7 a5 a6 b1 b2 b3 b4 c1 c2 c3 c4) (iS f g) .none .none doc pm an (.ref cda) ct cc) s.heap.objs.size fI)) (m := (fun y => ([("self", .ref x), (f, v), (g, u)] : List (Str × Value)).reverse.lookup y)) (v := u) n5 m7 ?_ k2 k7 T.gdb
  refine ldC (env := (callEnv (ksFn "__init__" qual (iA f g p1 p2 p3) (iB f g a1 a2 a3 a4 a7 a5 a6 b1 b2 b3 b4 c1 c2 c3 c4) (iS f g) .none .none doc pm an (.ref cda) ct cc) s.heap.objs.size fI)) (m := (fun y => ([("self", .ref x), (f, v), (g, u)] : List (Str × Value)).reverse.lookup y)) (v := .ref x) n5 m0 ?_ k2 k0 (by decide)
  refine set_plain X₅ (ox := _) (od := some oD5) ⟨hx₅, rfl, rfl, hoD5⟩ T.sa ?_
  refine PySem.OEX.osa_old X₅ hx₅ hn₅ wi (by simp) hcl (show refsVE (.ref C :: bm) = true from hbm) rfl T.noM (fun h₆ tk₆ k₆ hn₆ => ?_)
  show wpAny _ _ (execs _ _) _ _ _
  exact wpAny_execs_nil (hq h₆ tk₆ dx _ ⟨fun b o hb e => k₆ b o (nd b o e) (k₅ b o hb (hk14 b o hb (hk₁ b o e))), k₆ _ _ (Ne.symm dne) hx₅, Nat.le_trans z dn, dne, hn₆⟩)
theorem err_made (T : ErrTxt prog K mg x f g C fI) (Md : L2.Mod K mg base) (bk : ∀ b o, base.get? b = some o → s.heap.get? b = some o) {v u : Value} (X : K.In s.heap) (hlim : s.heap.NoLimit) (hroom : A.depth + 1 < recursionLimit)
    (hq : ∀ h' tk e d, OwnMade s.heap h' e C d f g v u → R (.ok (.ret (.ref e))) { s with heap := h', toks := tk }) :
    codeAny (model prog w) A (.call (.ref C) ⟨[v, u], []⟩) R s := by
  obtain ⟨nm, q, N, bs, bm, sn, sub, ab, col, dd, k0, k1, k2, k3, k5, hC, hbm⟩ := T.cls
  obtain ⟨hp, gg, dr, tk, os⟩ := s
  have k : ∀ b o, hp.get? b = some o → ((hp.push (kdv_tup [v, u])).push (excO C hp.objs.size)).get? b = some o := fun b o e => Heap.get?_push_of_some _ (Heap.get?_push_of_some _ e)
  have hget : ((hp.push (kdv_tup [v, u])).push (excO C hp.objs.size)).get? (hp.objs.size + 1) = some (excO C hp.objs.size) := by heap_get
  have hnx : K.lookup (hp.objs.size + 1) = none := by
    cases e : K.lookup (hp.objs.size + 1) with
    | none => rfl
    | some o =>
      have z : hp.get? (hp.objs.size + 1) = some o := X _ _ e
      exact absurd (Nat.lt_of_succ_lt (Heap.lt_size z)) (Nat.lt_irrefl _)
  refine call_own F.excBase_ValueError (fun X => refsVE_contains X bm hbm) (X _ _ hC) (looks_findIn X T.iC) (fun self => bind_fn X self T.tC) (two_size v u) ?_
  refine err_init (s := ⟨(hp.push (kdv_tup [v, u])).push (excO C hp.objs.size), gg, dr, tk, os⟩) T Md (fun b o e => k b o (bk b o e)) (X.keeps k) (hlim.keeps k) hget hnx ?_ fun h' tk' dx t1 ⟨k', hx, dn, dne, hns⟩ => ?_
  · show A.depth + 1 < recursionLimit
    exact hroom
  · have old : ∀ b o, hp.get? b = some o → h'.get? b = some o := fun b o e => k' b o (Nat.ne_of_lt (Nat.lt_succ_of_lt (Heap.lt_size e))) (k b o e)
    have z : hp.objs.size + 1 + 1 ≤ dx := by
      first
        | (simpa only [Heap.size_push] using dn)
        | exact dn
        | (have q := dn; rw [Heap.size_push, Heap.size_push] at q; exact q)
    exact ⟨rfl, hq h' tk' (hp.objs.size + 1) dx ⟨old, Nat.le_succ _, ⟨_, _, hx, rfl, rfl, rfl, rfl⟩, Nat.le_trans (Nat.le_trans (Nat.le_succ _) (Nat.le_succ _)) z, dne, hns⟩⟩
end
end EY
end PySem
namespace L2
open PySem PySem.Spec PyProof.Rows
theorem relO_err2 {f g : Str} {v u : V} {v' u' : Value} (r : RelV v v') (r2 : RelV u u') (hgf : (g == f) = false) (y : Str) : RelO (List.lookup y [(f, v), (g, u)]) (if y = g then some u' else if y = f then some v' else none) := by
  by_cases h1 : y = g
  · subst h1
    rw [if_pos rfl, show List.lookup y [(f, v), (y, u)] = some u by simp [List.lookup, hgf]]
    exact r2
  · rw [if_neg h1]
    by_cases h2 : y = f
    · subst h2
      rw [if_pos rfl, show List.lookup y [(y, v), (g, u)] = some v by simp [List.lookup]]
      exact r
    · have q1 : (y == g) = false := by simpa using h1
      have q2 : (y == f) = false := by simpa using h2
      rw [if_neg h2, show List.lookup y [(f, v), (g, u)] = none by simp [List.lookup, q1, q2]]
      trivial
section
variable {X : Cx} {C fI : Addr} {x f g : Str}
/-- x(e) -/
def tMkErr2 (f g : Str) (C : Addr) (ta : TA) : St → Hp → XK → Prop := fun σ H Q => ta σ H fun vs H1 => ∃ v u, vs = [v, u] ∧ ∀ d, H1 d = none → Q (.ref C) (some d) (upd H1 d (.xd [(f, v), (g, u)]))
theorem pmk_err2 {a b : Expr} {ta : TA} {p pos : Pos} {k : Nat} (T : PySem.EY.ErrTxt X.prog X.K X.mg x f g C fI) (hr : Room k X.A) (ha : PA X [a, b] ta) (hg : Gl X x) (hdb : (x == ("__debug__" : Str)) = false)
    (he : starEach (a :: [b]) X.env = (false, eval a X.env) :: starEach [b] X.env := by exact DL.starEach_cons rfl) (hpl : (backTo pos (starEach [b] X.env)).any (·.1) = false := by rfl) :
    PMk X (.Call (.Name x p) [a, b] [] pos) (tMkErr2 f g C ta) := by
  intro pins s σ H Q I h
  refine wpAny_Call_Name_kw (ld_glob I hg T.gC ?_ hdb)
  refine PySem.W.callWith_K (h₀ := X.base) I.ok.mod.kin T.kC (thn (ha.run pos pins s σ H _ I h) fun us s1 hh => ?_) he hpl
  obtain ⟨vs, H1, I1, r1, v, u, ev, q1⟩ := hh
  subst ev
  refine ⟨I1.kIn, ?_⟩
  cases r1 with
  | cons rv rn =>
    rename_i v' us'
    cases rn with
    | cons ru rn =>
    rename_i u' us'
    cases rn
    show wpAny _ _ (call (.ref C) [v', u']) _ _ _
    have hlim := I1.nolimit
    have bk1 := I1.bk
    obtain ⟨hp, gs, dr, tk, os⟩ := s1
    refine wpAny_call (PySem.EY.err_made T I1.ok.mod bk1 I1.kIn hlim (by have := hr.dp; omega) fun h' tk' e d M => ?_)
    show MkP X pins σ Q (.ref e) ⟨h', gs, dr, tk', os⟩
    obtain ⟨oe, fv, hoe, hc, hd, hdat, h1⟩ := M.obj
    have hns := M.ns
    obtain ⟨G', g1, g2⟩ := restrict h' fun b => decide (b ≠ e)
    have gk : ∀ b, b ≠ e → G'.get? b = h'.get? b := fun b hb => g1 b (decide_eq_true hb)
    have ge : G'.get? e = none := g2 e (by simp)
    have old : ∀ b o, hp.get? b = some o → G'.get? b = some o := fun b o q => (gk b (Nat.ne_of_lt (Nat.lt_of_lt_of_le (Heap.lt_size q) M.new))).trans (M.keep b o q)
    have ob : ObjOk X.prog X.w (upd H1 d (.xd [(f, v), (g, u)])) G' d (.xd [(f, v), (g, u)]) :=
      ⟨_, hns.at (fun o q => (gk d M.dne).trans q), fun y => relO_err2 rv ru T.gf y⟩
    have J : Inv X pins σ (upd H1 d (.xd [(f, v), (g, u)])) ⟨G', gs, dr, tk', os⟩ := I1.laid (t' := tk') old M.dbig ob
    refine ⟨e, oe, fv, ⟨G', gs, dr, tk', os⟩, _, .ref C, some d, rfl, J, fun b o q => ?_, ge, hoe, ⟨hc, hd⟩, hdat, h1, ?_, rfl, I1.bare, raises_own T.exC T.tyC, q1 d (I1.hok.fresh M.dbig)⟩
    · by_cases hb : b = e
      · have q' : G'.get? b = some o := q
        rw [hb, ge] at q'; cases q'
      · exact (gk b hb).symm.trans q
    · rw [upd_ne (Ne.symm M.dne)]
      exact I1.hok.fresh M.new
/-- raise x(e) -/
def tRaiseErr2 (f g : Str) (C : Addr) (W : WX) (ta : TA) : TS := fun _ σ H => tMkErr2 f g C ta σ H fun cls d H' => W cls d σ H'
theorem ps_raiseErr2 {a b : Expr} {ta : TA} {W : WX} {p pos pos2 : Pos} {k : Nat} (hc : X.calm = true) (T : PySem.EY.ErrTxt X.prog X.K X.mg x f g C fI) (hr : Room k X.A) (tk : Takes X W) (ha : PA X [a, b] ta) (hg : Gl X x) (hdb : (x == ("__debug__" : Str)) = false)
    (he : starEach (a :: [b]) X.env = (false, eval a X.env) :: starEach [b] X.env := by exact DL.starEach_cons rfl) (hpl : (backTo pos (starEach [b] X.env)).any (·.1) = false := by rfl) :
    PS X (.Raise (some (.Call (.Name x p) [a, b] [] pos)) none pos2) (tRaiseErr2 f g C W ta) := ps_raise hc tk (pmk_err2 T hr ha hg hdb he hpl)
end
end L2
namespace DL
open PySem PySem.Spec PyProof.Rows L2
section
variable {X : Cx} {M : LK} {W : WX} {C fI : Addr} {x f g : Str}
/-- raise x(e, e'), x an own error of two fields -/
def dRaise2 (C : Addr) (f g : Str) (fa : DTA) : DTS := fun k δ n => fa δ n (fun xs n1 => xs.length = 2 ∧ k.ex δ C [f, g] xs n1) k.ex
theorem ds_raise2 {st : Stmt} {fa : DTA} (h : PS X st (tRaiseErr2 f g C W (liftA M W fa))) : PS X st (liftS M W (dRaise2 C f g fa)) :=
  PSw h fun D₀ σ H ⟨pn, G, n, δ, k, R, hf, s⟩ => by
    refine ⟨pn, G, n, δ, _, k.ex, R, hf, fun G1 vs ds n1 H1 A1 R1 i1 h1 => ?_, s.xe⟩
    obtain ⟨hl, h1⟩ := h1
    match ds, hl with
    | [d, d2], _ =>
      obtain ⟨v, u, rfl, iv, iu⟩ := i1.two
      refine ⟨v, u, rfl, fun a ha => ?_⟩
      obtain ⟨R2, A2⟩ := R1.lay (o := .xd [(f, v), (g, u)]) ha notTbl_xd
      exact s.ex _ σ δ C a [f, g] [d, d2] n1 _ (R.tr A1 A2) R2 ⟨[(f, v), (g, u)], upd_same, rfl, by simp only [List.map, IsL]; exact ⟨Is.up A2.ge d v iv, Is.up A2.ge d2 u iu, trivial⟩⟩ h1
end
end DL

set_option Elab.async false
set_option linter.all false
set_option maxRecDepth 100000
set_option maxHeartbeats 4000000
set_option autoImplicit false
/-! Own classes: made, read, compared; what is raised is wished for at the caller's slots. -/
namespace OB
open PySem PySem.Spec PyProof.Rows L2
def noE : XK := fun _ _ _ => False
section
variable {X : Cx} {k n : Nat} {f C : Addr} {fd : FuncData} {ps ks : List Str} {sp : Sp} {E : XK} {pins : List (Addr × Obj)} {σ : L2.St} {H : Hp} {s : Shared}
theorem passNo : PassesAt (L2.CX X.prog X.w) X σ noE := fun pins H s e s' I c => by
  obtain ⟨_, _, _, _, _, _, _, _, _, _, _, _, h⟩ := c
  exact h.elim
/-- the def at f runs somewhere below -/
theorem below {A : Around} {Q : VK} {us : List Value} {vs : List V} (F : FnOk X.prog X.w X.K X.mg X.base (L2.CX X.prog X.w) k f fd ps sp) (b : Binds X.K fd ps []) (hr : Room k A) (hf : A.frames = X.A.frames) (hx : PassesAt (L2.CX X.prog X.w) X σ E) (I : Inv X pins σ H s) (r : Vals vs us)
    (h : sp vs H Q E) : wpAny (model X.prog X.w) A (call (.ref f) us) (EP X pins σ Q) X.xe s := by
  have l := F.len _ _ _ _ h
  have e1 := I.env0
  have e0 : Env0 X.prog X.w X.K X.mg X.base A X.stack s H := ⟨hf.trans e1.frames, e1.mod, e1.bs, e1.bsz, e1.funs, e1.frf, e1.hok, e1.bare⟩
  have bt : BindsTo s fd ⟨us, []⟩ (ps.zip us) := by
    have z := b s us I.kIn (by rw [List.append_nil, ← r.length]; exact l)
    rw [List.append_nil] at z
    exact z
  refine wpAny_call (codeAny_mono (F.run A X.stack s H ⟨us, []⟩ us vs Q E hr e0 bt r h) fun t s' q => ?_)
  match t, q with
  | .error e, q => exact hx pins H s e s' I q
  | .ok (.ret u), q => exact I.after q
  | .ok .next, q => exact q.elim
  | .ok .brk, q => exact q.elim
  | .ok .cont, q => exact q.elim
/-- an instance is made, its __init__ runs -/
theorem made {Q : VK} {us ws : List Value} {vs zs : List V} {g : List Value → List Value → List Value} {gV : List V → List V → List V} (M : Mk X.K C f) (F : FnOk X.prog X.w X.K X.mg X.base (L2.CX X.prog X.w) k f fd ps sp) (hr : Room (k + 1) X.A) (b : KBn X.K fd ps (n + 1) ks g gV) (hx : PassesAt (L2.CX X.prog X.w) X σ E)
    (I : Inv X pins σ H s) (r : Vals vs us) (rz : Vals zs ws) (l1 : vs.length = n) (l2 : zs.length = ks.length)
    (h : ∀ x dx, H x = none → H dx = none → dx ≠ x → sp (gV (.ref x :: vs) zs) (upd (upd H dx (.own x)) x (.ins C dx [])) (fun v H2 => v = .non ∧ Q (.ref x) H2) E) :
    wpAny (model X.prog X.w) X.A (call (.ref C) us (ks.zip ws)) (EP X pins σ Q) X.xe s := by
  have I2 := Inv.made (C := C) I
  have rx : Vals (V.ref (s.heap.objs.size + 1) :: vs) (Value.ref (s.heap.objs.size + 1) :: us) := .cons rfl r
  have hq := h _ _ (I.hok.fresh (Nat.le_succ s.heap.objs.size)) (I.hok.fresh (Nat.le_refl s.heap.objs.size)) (Nat.ne_of_lt (Nat.lt_succ_self _))
  have nx : (Value.ref (s.heap.objs.size + 1) :: us).length = n + 1 := by simp only [List.length_cons, ← r.length, l1]
  have run := F.run _ X.stack _ _ ⟨_ :: us, ks.zip ws⟩ _ _ _ E (hr.make C us (ks.zip ws)) (I2.env0.make C us (ks.zip ws)) (b.to _ _ ws I2.kIn nx (rz.length.symm.trans l2)) (b.rel rx rz) hq
  refine wpAny_call (make_map (f := f) I.kIn M.makes M.init (beq_iff_eq.mp M.fn) (codeAny_mono run fun t s' q => ?_))
  match t, q with
  | .error e, q => exact hx pins _ _ e s' I2 q
  | .ok (.ret u), q =>
    obtain ⟨v, H', I3, rv, ev, q3⟩ := I2.after q
    subst ev
    exact ⟨rv, ⟨.ref (s.heap.objs.size + 1), H', I3, rfl, q3⟩⟩
  | .ok .next, q => exact q.elim
  | .ok .brk, q => exact q.elim
  | .ok .cont, q => exact q.elim
end
section
variable {X : Cx} {k n : Nat} {f C : Addr} {fd : FuncData} {ps ks : List Str} {sp : Sp} {E : L2.St → XK} {x m : Str} {p pos apos : Pos} {e o : Expr} {es : List Expr} {kws : List Keyword} {t tk : TA} {ta : TE} {g : List Value → List Value → List Value} {gV : List V → List V → List V}
/-- C(e, .., k = v, ..): a new instance and its dict, then __init__ -/
def tNew (C : Addr) (n m : Nat) (sp : Sp) (gV : List V → List V → List V) (E : L2.St → XK) (t tk : TA) : TE := fun σ H Q => t σ H fun vs H1 => tk σ H1 fun zs H2 => vs.length = n ∧ zs.length = m ∧
  ∀ x dx, H2 x = none → H2 dx = none → dx ≠ x → sp (gV (.ref x :: vs) zs) (upd (upd H2 dx (.own x)) x (.ins C dx [])) (fun v H3 => v = .non ∧ Q (.ref x) H3) (E σ)
theorem pe_newK (M : Mk X.K C f) (F : FnOk X.prog X.w X.K X.mg X.base (L2.CX X.prog X.w) k f fd ps sp) (hr : Room (k + 1) X.A) (hg : Gl X x) (hm : X.mg x = some (.ref C)) (b : KBn X.K fd ps (n + 1) ks g gV) (hx : ∀ σ, PassesAt (L2.CX X.prog X.w) X σ (E σ)) (ha : PA X (e :: es) t) (hkw : PK X kws tk)
    (hall : (backToKw pos (keywordEach kws X.env)).all (·.1.isSome) = true := by rfl) (hks : (backToKw pos (keywordEach kws X.env)).filterMap (·.1) = ks := by rfl) (hdb : (x == ("__debug__" : Str)) = false := by decide)
    (he : starEach (e :: es) X.env = (false, eval e X.env) :: starEach es X.env := by rfl) (hpl : ((backTo pos (starEach (e :: es) X.env)).any (·.1) || (backToKw pos (keywordEach kws X.env)).any (·.1.isNone)) = false := by rfl) :
    PE X (.Call (.Name x p) (e :: es) kws pos) (tNew C n ks.length sp gV E t tk) := by
  constructor
  intro pins s σ H Q I h
  refine wpAny_Call_Name_kw (ld_glob I hg hm (PySem.W.callWith_KW (h₀ := X.base) I.ok.mod.kin M.kp hall (thn (ha.run pos pins s σ H _ I h) fun us s1 ⟨vs, H1, I1, r, q⟩ => ?_) hpl he) hdb)
  refine thn (hkw.run pos pins s1 σ H1 _ I1 q) fun ws s2 ⟨zs, H2, I2, rz, l1, l2, q2⟩ => ⟨I2.kIn, ?_⟩
  rw [hks]
  exact made M F hr b (hx σ) I2 r rz l1 l2 q2
/-- .. without keywords -/
theorem pe_newP (M : Mk X.K C f) (F : FnOk X.prog X.w X.K X.mg X.base (L2.CX X.prog X.w) k f fd ps sp) (hr : Room (k + 1) X.A) (hg : Gl X x) (hm : X.mg x = some (.ref C)) (b : KBn X.K fd ps (n + 1) [] g gV) (hx : ∀ σ, PassesAt (L2.CX X.prog X.w) X σ (E σ)) (ha : PA X (e :: es) t)
    (hdb : (x == ("__debug__" : Str)) = false := by decide) (he : starEach (e :: es) X.env = (false, eval e X.env) :: starEach es X.env := by rfl) (hpl : (backTo pos (starEach es X.env)).any (·.1) = false := by rfl) :
    PE X (.Call (.Name x p) (e :: es) [] pos) (tNew C n 0 sp gV E t tNil) := by
  constructor
  intro pins s σ H Q I h
  refine wpAny_Call_Name_kw (ld_glob I hg hm (PySem.W.callWith_K (h₀ := X.base) I.ok.mod.kin M.kp (thn (ha.run pos pins s σ H _ I h) fun us s1 ⟨vs, H1, I1, r, q⟩ => ⟨I1.kIn, ?_⟩) he hpl) hdb)
  exact made (ws := []) M F hr b (hx σ) I1 r .nil q.1 rfl q.2.2
/-- C() -/
theorem pe_new0 (M : Mk X.K C f) (F : FnOk X.prog X.w X.K X.mg X.base (L2.CX X.prog X.w) k f fd ps sp) (hr : Room (k + 1) X.A) (hg : Gl X x) (hm : X.mg x = some (.ref C)) (b : KBn X.K fd ps 1 [] g gV) (hx : ∀ σ, PassesAt (L2.CX X.prog X.w) X σ (E σ))
    (hdb : (x == ("__debug__" : Str)) = false := by decide) : PE X (.Call (.Name x p) [] [] pos) (tNew C 0 0 sp gV E tNil tNil) := by
  constructor
  intro pins s σ H Q I h
  exact wpAny_Call_Name_kw (ld_glob I hg hm (PySem.W.callWith_K0 I.kIn M.kp (made (us := []) (ws := []) M F hr b (hx σ) I .nil .nil h.1 rfl h.2.2)) hdb)
/-- o.m(e, ..) -/
def tMet (C : Addr) (m : Str) (sp : Sp) (E : L2.St → XK) (ta : TE) (t : TA) : TE := fun σ H Q => ta σ H fun x H1 => ∃ a dx fs, x = .ref a ∧ H1 a = some (.ins C dx fs) ∧ fs.lookup m = none ∧ t σ H1 fun vs H2 => sp (x :: vs) H2 Q (E σ)
theorem pe_met {pl : Sem Bool} (he : PE X o ta) (c : Cls X.K C) (hm : Meth X.K C m f) (F : FnOk X.prog X.w X.K X.mg X.base (L2.CX X.prog X.w) k f fd ps sp) (hr : Room k X.A) (b : Binds X.K fd ps []) (hx : ∀ σ, PassesAt (L2.CX X.prog X.w) X σ (E σ)) (ha : PA X (e :: es) t)
    (hst : starEach (e :: es) X.env = (false, eval e X.env) :: starEach es X.env := by rfl) (hpl : (backTo pos (starEach es X.env)).any (·.1) = false := by rfl)
    (ht : eval (.Call (.Attribute o m apos) (e :: es) [] pos) X.env = (eval o X.env >>= fun ov => standAt apos.atName >>= fun _ => holding [ov] (getMethod ov m pl) >>= fun gf => callWith pos gf.1 gf.2 (backTo pos (starEach (e :: es) X.env)) (backToKw pos (keywordEach [] X.env))) := by rfl) :
    PE X (.Call (.Attribute o m apos) (e :: es) [] pos) (tMet C m sp E ta t) := by
  constructor
  intro pins s σ H Q I h
  refine PySem.W.methodCall_KW (pl := pl) (thn (he.run pins s σ H _ I h) fun u s1 ⟨x, H1, I1, rx, a, dx, fs, ex, ea, l, q⟩ => ?_) ht
  subst ex
  obtain rfl : u = Value.ref a := rx
  refine getmeth_ok I1 ea c hm l (PySem.W.callWith_K (first := [.ref a]) (h₀ := X.base) I.ok.mod.kin hm.kp (thn (ha.run pos pins s1 σ H1 _ I1 q) fun us s2 ⟨vs, H2, I2, r, q2⟩ => ⟨I2.kIn, ?_⟩) hst hpl)
  exact below F b hr rfl (hx σ) I2 (us := .ref a :: us) (vs := .ref a :: vs) (.cons rfl r) q2
theorem pe_met0 {pl : Sem Bool} (he : PE X o ta) (c : Cls X.K C) (hm : Meth X.K C m f) (F : FnOk X.prog X.w X.K X.mg X.base (L2.CX X.prog X.w) k f fd ps sp) (hr : Room k X.A) (b : Binds X.K fd ps []) (hx : ∀ σ, PassesAt (L2.CX X.prog X.w) X σ (E σ))
    (ht : eval (.Call (.Attribute o m apos) [] [] pos) X.env = (eval o X.env >>= fun ov => standAt apos.atName >>= fun _ => holding [ov] (getMethod ov m pl) >>= fun gf => callWith pos gf.1 gf.2 (backTo pos (starEach [] X.env)) (backToKw pos (keywordEach [] X.env))) := by rfl) :
    PE X (.Call (.Attribute o m apos) [] [] pos) (tMet C m sp E ta tNil) := by
  constructor
  intro pins s σ H Q I h
  refine PySem.W.methodCall_KW (pl := pl) (thn (he.run pins s σ H _ I h) fun u s1 ⟨x, H1, I1, rx, a, dx, fs, ex, ea, l, q⟩ => ?_) ht
  subst ex
  obtain rfl : u = Value.ref a := rx
  exact getmeth_ok I1 ea c hm l (PySem.W.callWith_K0 (first := [.ref a]) I1.kIn hm.kp (below F b hr rfl (hx σ) I1 (us := [.ref a]) (vs := [.ref a]) (.cons rfl .nil) q))
end
/-- a class with its own ==, without an own != -/
structure EqC (K : PySem.W.Frag) (C f : Addr) : Prop where
  eq : PySem.W.findIn K (.ref C) "__eq__" = some (some (.ref f))
  fn : PySem.W.isFn K (.ref f) = true
  ne : PySem.W.findIn K (.ref C) "__ne__" = some (some (.builtin "object.__ne__"))
  ob : PySem.W.subIn K (.ref C) (.type "object") = some true
section
variable {X : Cx} {k : Nat} {f C : Addr} {fd : FuncData} {ps : List Str} {sp : Sp}
/-- x == y by the own def; neg: != -/
def rOwn (K : PySem.W.Frag) (C : Addr) (sp : Sp) (neg : Bool) : R2 := fun x y H Q => ∃ a dx fs tb, x = .ref a ∧ H a = some (.ins C dx fs) ∧ TyX K H y tb ∧ PySem.W.notFirst K C tb = true ∧ sp [x, y] H (fun v H' => ∃ b : Bool, v = .bl b ∧ Q (.bl (if neg then !b else b)) H') noE
theorem op_eqOwn (c : EqC X.K C f) (F : FnOk X.prog X.w X.K X.mg X.base (L2.CX X.prog X.w) k f fd ps sp) (hr : Room k X.A) (b : Binds X.K fd ps []) : OpR X (compareOp .Eq) (rOwn X.K C sp false) := by
  intro pins s σ H x y u v Q I rx ry h
  obtain ⟨a, dx, fs, tb, rfl, ha, ty, nf, h⟩ := h
  obtain rfl : u = Value.ref a := rx
  obtain ⟨mA, J, _⟩ := ins_get I.hok ha
  obtain ⟨od, J, _⟩ := J.look
  obtain ⟨m, hF⟩ := I.fr
  obtain ⟨P, Z, hP, _⟩ := kit_of I ry ty
  refine PySem.W.cmp_K (op := .Eq) (tb := tb) hr.units0 hF I.ok.mod.kin J (Z.ty _ _ I.kIn hP) nf c.eq c.fn ?_
  refine wpAny_mono (below F b hr rfl passNo I (us := [.ref a, v]) (vs := [.ref a, y]) (.cons rfl (.cons ry .nil)) h) (fun w s' q => ?_) fun _ _ z => z
  obtain ⟨z, H', I', rz, bb, rfl, q⟩ := q
  cases (show w = Value.bool bb from rz)
  exact ⟨.bl bb, H', I', rfl, by simpa using q⟩
theorem op_neOwn (c : EqC X.K C f) (F : FnOk X.prog X.w X.K X.mg X.base (L2.CX X.prog X.w) k f fd ps sp) (hr : Room (k + 1) X.A) (b : Binds X.K fd ps []) : OpR X (compareOp .NotEq) (rOwn X.K C sp true) := by
  intro pins s σ H x y u v Q I rx ry h
  obtain ⟨a, dx, fs, tb, rfl, ha, ty, nf, h⟩ := h
  obtain rfl : u = Value.ref a := rx
  obtain ⟨mA, J, _⟩ := ins_get I.hok ha
  obtain ⟨od, J, _⟩ := J.look
  obtain ⟨P, Z, hP, _⟩ := kit_of I ry ty
  have hu := hr.units0
  have X0 := I.kIn
  have one : wpAny (model X.prog X.w) X.A (tryCompare (.ref a) "__ne__" v) (fun r s' => ∃ w, r = some w ∧ EP X pins σ Q w s') X.xe s := by
    unfold tryCompare
    simp only [callSpecialIfBound?, bindSpecialIfBound?]
    refine wpAny_bind (wpAny_holding (wpAny_bind (wpAny_bind (wpAny_bind (J.type.here ((PySem.W.looks_findIn X0 c.ne).here ?_))))))
    simp only [PySem.F.cmp_object.ne.bind]
    have hI : PySem.W.Looks (model X.prog X.w) s.heap (isInstance (.ref a) (.type "object")) true := J.type.andThen (PySem.W.looks_subIn X0 c.ob)
    have cal : wpAny (model X.prog X.w) X.A (call (.builtin "object.__ne__") [.ref a, v]) (fun w s' => ∃ bb : Bool, w = .bool bb ∧ EP X pins σ Q (.bool bb) s') X.xe s := by
      refine wpAny_call (codeAny_call_builtin PySem.F.cmp_object.ne.plain PySem.F.cmpEntry_ne (PySem.W.check_slot PySem.F.cmpKind_ne PySem.F.cmpSplit_ne hI (PySem.F.cmpArgs_ne _ _) ?_))
      have eqc := below (A := X.A.in1) F b hr.in1 rfl passNo I (us := [.ref a, v]) (vs := [.ref a, y]) (.cons rfl (.cons ry .nil)) h
      have eqd : wpAny (model X.prog X.w) X.A.in1 (callSpecialIfBound? (.ref a) "__eq__" [v]) (fun r s' => ∃ bb : Bool, r = some (.bool bb) ∧ EP X pins σ Q (.bool (!bb)) s') X.xe s := by
        refine PySem.W.ifBound_K X0 J c.eq c.fn (wpAny_mono eqc (fun w s' q => ?_) fun _ _ z => z)
        obtain ⟨z, H', I', rz, bb, rfl, q⟩ := q
        cases (show w = Value.bool bb from rz)
        exact ⟨bb, rfl, .bl (!bb), H', I', rfl, by simpa using q⟩
      unfold Builtin.«object.__ne__»
      repeat (first
        | with_reducible refine wpAny_cRoomFor hr.in1.units0 ?_
        | (refine wpAny_bind (m := callSpecialIfBound? (.ref a) (Str.ofString "__eq__") [v]) (wpAny_mono eqd (fun r s' hr' => by
            obtain ⟨bb, rfl, hq⟩ := hr'
            repeat (first | exact ⟨_, rfl, hq⟩ | (refine wpAny_bind (m := truthy (.bool _)) (wpAny_truthy_bool ?_)) | wp_step)) fun _ _ z => z))
        | wp_step)
    have fin : wpAny (model X.prog X.w) X.A (call (.builtin "object.__ne__") ([.ref a] ++ [v]) >>= fun w => pure (some w)) (fun r s' => ∃ bb : Bool, r = some (.bool bb) ∧ EP X pins σ Q (.bool bb) s') X.xe s := by
      refine wpAny_bind (wpAny_mono cal (fun w s' q => ?_) fun _ _ z => z)
      obtain ⟨bb, rfl, q⟩ := q
      exact wpAny_pure ⟨bb, rfl, q⟩
    have fin2 := wpAny_mono fin (fun r s' (q : ∃ bb : Bool, r = some (.bool bb) ∧ EP X pins σ Q (.bool bb) s') => (show wpAny (model X.prog X.w) X.A (match r with
            | some Value.notImplemented => pure none
            | none => pure none
            | some w => pure (some w)) (fun r s' => ∃ w, r = some w ∧ EP X pins σ Q w s') X.xe s' from by
      obtain ⟨bb, rfl, q⟩ := q
      exact wpAny_pure ⟨_, rfl, q⟩)) fun _ _ z => z
    refine wpAny_bind (wpAny_askSetting (wpAny_ite ?_))
    split
    · exact wpAny_bind (wpAny_pure (wpAny_pure fin2))
    · exact wpAny_tryCatch (wpAny_bind (wpAny_pure (wpAny_pure fin2)))
  show wpAny (model X.prog X.w) X.A (richCompare .NotEq (.ref a) v) (EP X pins σ Q) X.xe s
  unfold richCompare
  simp only [oneThing_ref]
  refine wpAny_holding (wpAny_bind (wpAny_cRoomFor hu ?_))
  refine wpAny_bind (J.type.here (wpAny_bind ((Z.ty _ _ I.kIn hP).here ?_)))
  split
  · rename_i q
    have e : PySem.W.subIn X.K tb (.ref C) = some false := by
      rcases Bool.or_eq_true_iff.mp nf with e | e
      · rw [beq_iff_eq.mp e] at q; simp at q
      · exact beq_iff_eq.mp e
    refine wpAny_bind ((PySem.W.looks_subIn X0 e).here ?_)
    simp only [Bool.false_eq_true, if_false]
    refine wpAny_bind (wpAny_mono one (fun r s' q => ?_) fun _ _ z => z)
    obtain ⟨w, rfl, q⟩ := q
    exact wpAny_pure q
  · refine wpAny_bind (wpAny_pure ?_)
    simp only [Bool.false_eq_true, if_false]
    refine wpAny_bind (wpAny_mono one (fun r s' q => ?_) fun _ _ z => z)
    obtain ⟨w, rfl, q⟩ := q
    exact wpAny_pure q
end
end OB

set_option Elab.async false
set_option linter.all false
set_option maxRecDepth 100000
set_option maxHeartbeats 4000000
set_option autoImplicit false
/-! The data layer: own classes, lists that change, numbers in texts. -/
namespace DL
open PySem PySem.Spec PyProof.Rows L2
section
variable {X : Cx} {M : LK} {W : WX} {pn : Addr} {G G1 H H1 : Hp} {n : NS} {σ : L2.St} {δ : DEnv}
/-! ### fields -/
theorem zip_look {G : Hp} {f : Str} : ∀ {fs : List (Str × V)} {xs : List D} {d : D}, IsL M G (fs.map (·.2)) xs → ((fs.map (·.1)).zip xs).lookup f = some d → ∃ v, fs.lookup f = some v ∧ Is M G v d := fun h1 h2 => xd_look h1 h2
theorem look_none {f : Str} : ∀ {fs : List (Str × V)}, f ∉ fs.map (·.1) → fs.lookup f = none
  | [], _ => rfl
  | (g, v) :: fs, h => by
    simp only [List.map_cons, List.mem_cons, not_or] at h
    have : (f == g) = false := by simpa using h.1
    rw [List.lookup, this]
    exact look_none h.2
/-- e.f; Cs: the classes that have such a field -/
def dFld (Cs : List Addr) (f : Str) (fo : DTE) : DTE := fun δ n q e => fo δ n (fun x n1 => match x with
  | .ins C ns xs => C ∈ Cs ∧ ∃ d, (ns.zip xs).lookup f = some d ∧ q d n1
  | .ref a => ∃ C dx ns xs d, n1.mu a = some (.ins C dx ns xs) ∧ C ∈ Cs ∧ (ns.zip xs).lookup f = some d ∧ q d n1
  | _ => False) e
def FldOk (K : PySem.W.Frag) (Cs : List Addr) (f : Str) : Prop := ∀ C ∈ Cs, Cls K C ∧ NoAttr K C f
theorem dp_fld {o : Expr} {f : Str} {pos : Pos} {Cs : List Addr} {fo : DTE} (hc : FldOk X.K Cs f) (ho : PE X o (liftE M W fo)) (hb : attributeBase o f X.env (eval o X.env) = eval o X.env := by rfl) : PE X (.Attribute o f pos) (liftE M W (dFld Cs f fo)) :=
  PEw (pe_fld ho hb) fun σ H Q ⟨pn, G, n, δ, q, e, R, hf, hQ, hX⟩ => by
    refine ⟨pn, G, n, δ, _, e, R, hf, fun G1 v x n1 H1 A1 R1 i1 h1 => ?_, hX⟩
    cases x with
    | ins C ns xs =>
      simp only [Is] at i1
      obtain ⟨p, dx, fs, rfl, g1, rfl, g3⟩ := i1
      obtain ⟨hC, d, hl, h1⟩ := h1
      obtain ⟨u, hu, iu⟩ := zip_look g3 hl
      exact ⟨p, C, dx, fs, u, rfl, R1.ex _ _ g1, (hc C hC).1, (hc C hC).2, hu, hQ G1 u d n1 H1 A1 R1 iu h1⟩
    | ref a =>
      simp only [Is] at i1
      subst i1
      obtain ⟨C, dx, ns, xs, d, hm, hC, hl, h1⟩ := h1
      obtain ⟨u, g1, g2, _, _⟩ := R1.mu a _ hm
      cases u <;> simp only [MIs] at g2
      rename_i C' dx' fs
      obtain ⟨rfl, rfl, rfl, g3⟩ := g2
      obtain ⟨u, hu, iu⟩ := zip_look g3 hl
      exact ⟨a, _, _, fs, u, rfl, g1, (hc _ hC).1, (hc _ hC).2, hu, hQ G1 u d n1 H1 A1 R1 iu h1⟩
    | _ => exact h1.elim
theorem putF_new {f : Str} {v : V} : ∀ {fs : List (Str × V)}, f ∉ fs.map (·.1) → putF f v fs = fs ++ [(f, v)]
  | [], _ => rfl
  | (g, x) :: fs, h => by
    simp only [List.map_cons, List.mem_cons, not_or] at h
    show (if g = f then (g, v) :: fs else (g, x) :: putF f v fs) = _
    rw [if_neg (Ne.symm h.1), putF_new h.2]
    rfl
/-- o.f = v, a new field -/
def gField (to : TE) (K : PySem.W.Frag) (f : Str) : TG := fun v σ H Q => to σ H fun x H2 => ∃ a C dx fs, x = .ref a ∧ H2 a = some (.ins C dx fs) ∧ Cls K C ∧ NoAttr K C f ∧ fs.length < 1000 ∧ Q σ (upd H2 a (.ins C dx (putF f v fs)))
theorem pg_field {o : Expr} {f : Str} {pos : Pos} {to : TE} (ho : PE X o to) (ha : ∀ v, assign (.Attribute o f pos) X.env v = (holding [v] (eval o X.env) >>= fun ov => standAt pos.atName >>= fun _ => holding [v, ov] (setAttr ov f v) >>= fun _ => release [v, ov] []) := by intro _; rfl) : PG X (.Attribute o f pos) (gField to X.K f) := by
  constructor
  intro pins s σ H v u Q I r h
  rw [ha]
  refine wpAny_bind (wpAny_holding (thn (ho.run pins s σ H _ I h) fun ov s1 ⟨x, H2, I2, rx, a, C, dx, fs, ex, ea, c, n, l, q⟩ => ?_))
  subst ex
  obtain rfl : ov = Value.ref a := rx
  exact wpAny_bind (wpAny_standAt (wpAny_bind (wpAny_holding (setattr_ok I2 ea c n l r fun s3 I3 => wpAny_release ⟨σ, _, I3, q⟩))))
def dgFld (Cs : List Addr) (f : Str) (fo : DTE) : DTG := fun d δ n q => fo δ n (fun x n1 => match x with
  | .ref a => ∃ C dx ns xs, n1.mu a = some (.ins C dx ns xs) ∧ C ∈ Cs ∧ f ∉ ns ∧ ns.length < 1000 ∧ q δ ⟨n1.at_, mup n1.mu a (some (.ins C dx (ns ++ [f]) (xs ++ [d])))⟩
  | _ => False) noX
theorem dg_fld {o : Expr} {f : Str} {pos : Pos} {Cs : List Addr} {fo : DTE} {vs : List Nat} (hc : FldOk X.K Cs f) (ho : PE X o (liftE M W fo)) (ha : ∀ v, assign (.Attribute o f pos) X.env v = (holding [v] (eval o X.env) >>= fun ov => standAt pos.atName >>= fun _ => holding [v, ov] (setAttr ov f v) >>= fun _ => release [v, ov] []) := by intro _; rfl) : PG X (.Attribute o f pos) (liftG M vs (dgFld Cs f fo)) :=
  PGw (pg_field ho ha) fun v σ H Q ⟨pn, G, n, δ, d, q, R, hi, hg, hQ⟩ => by
    refine ⟨pn, G, n, δ, _, noX, R, hg, fun G1 w x n1 H1 A1 R1 i1 h1 => ?_, XEnd.no noX_no⟩
    cases x with
    | ref a =>
      simp only [Is] at i1
      subst i1
      obtain ⟨C, dx, ns, xs, hm, hC, hn, hl, h1⟩ := h1
      obtain ⟨u, g1, g2, _, _⟩ := R1.mu a _ hm
      cases u <;> simp only [MIs] at g2
      rename_i C' dx' fs
      obtain ⟨rfl, rfl, rfl, g3⟩ := g2
      refine ⟨a, _, _, fs, rfl, g1, (hc _ hC).1, (hc _ hC).2, by simpa using hl, ?_⟩
      rw [putF_new hn]
      refine hQ G1 σ δ _ _ ⟨A1.ge⟩ (R1.chg hm ?_) rfl h1
      simp only [MIs, List.map_append, List.map_cons, List.map_nil]
      exact ⟨trivial, trivial, trivial, IsL.append g3 (by simp only [IsL]; exact ⟨Is.up A1.ge d v hi, trivial⟩)⟩
    | _ => exact h1.elim
/-- an object aside -/
theorem Rep.side {p : Addr} {o : HO} (R : Rep M pn G n σ δ H) (h : H p = none) : Rep M pn G n σ δ (upd H p o) := by
  have np := R.penne h
  refine ⟨fun a u e => by rw [upd_ne (ne_of_none (R.ex _ _ e) h)]; exact R.ex _ _ e, R.pen.new np, R.tab.ext fun b u e => by rw [upd_ne (ne_of_none e h)]; exact e, R.nt, R.pe, fun a u e => ?_, R.env⟩
  obtain ⟨x, h1, h2⟩ := R.mu a u e
  exact ⟨x, by rw [upd_ne (ne_of_none h1 h)]; exact h1, h2⟩
end
/-! ### a new instance -/
theorem PKw {X : Cx} {e : List Keyword} {t t' : TA} (h : PK X e t) (w : ∀ σ H Q, t' σ H Q → t σ H Q) : PK X e t' := ⟨fun pos pins s σ H Q I q => h.run pos pins s σ H Q I (w _ _ _ q)⟩
section
variable {X : Cx} {M : LK} {W : WX}
theorem dk_nil : PK X [] (liftA M W dNil) := PKw pk_nil fun σ H Q ⟨pn, G, n, δ, q, e, R, hf, hQ, hX⟩ => hQ G [] [] n H Adv.refl R (by simp only [IsL]) hf
theorem dk_cons {e : Expr} {nm : Option Str} {kpos : Pos} {kws : List Keyword} {f : DTE} {g : DTA} (ha : PE X e (liftE M W f)) (hr : PK X kws (liftA M W g)) : PK X (⟨nm, e, kpos⟩ :: kws) (liftA M W (dCons f g)) :=
  PKw (pk_cons ha hr) fun σ H Q ⟨pn, G, n, δ, q, e, R, hf, hQ, hX⟩ => by
    refine ⟨pn, G, n, δ, _, e, R, hf, fun G1 v d n1 H1 A1 R1 i1 h1 => ?_, hX⟩
    refine ⟨pn, G1, n1, δ, _, e, R1, h1, fun G2 vs ds n2 H2 A2 R2 i2 h2 => ?_, hX.on R A1⟩
    exact hQ G2 (v :: vs) (d :: ds) n2 H2 (R.tr A1 A2) R2 (by simp only [IsL]; exact ⟨Is.up A2.ge d v i1, i2⟩) h2
end
/-- what the __init__ that keeps sI makes of C(..), as a promise -/
def NewOk (C : Addr) (sI s : DSp) : Prop := ∀ ds n q e, s ds n q e → ∀ a dx, n.mu a = none → sI (.ref a :: ds) ⟨n.at_, mup n.mu a (some (.ins C dx [] []))⟩ (fun d n' => d = .non ∧ ∃ ns xs dy, n'.mu a = some (.ins C dy ns xs) ∧ q (.ins C ns xs) ⟨n'.at_, mup n'.mu a none⟩) fun B ns xs n' => e B ns xs ⟨n'.at_, mup n'.mu a none⟩
/-- the class x, called with m values and the keywords ks; g: the arguments in the parameters' order -/
structure NewD (P : Program) (w : World) (K : PySem.W.Frag) (mg : Str → Option Value) (base : Heap) (M : LK) (k : Nat) (x : Str) (m : Nat) (ks : List Str) (g : List D → List D → List D) (s : DSp) : Prop where
  ex : ∃ (C f : Addr) (fd : FuncData) (ps : List Str) (gu : List Value → List Value → List Value) (gV : List V → List V → List V) (r : Nat) (sI : DSp), Mk K C f ∧ mg x = some (.ref C) ∧ FnOk P w K mg base (L2.CX P w) k f fd ps (lift M r sI) ∧ KBn K fd ps (m + 1) ks gu gV ∧
    (∀ (G : Hp) (a : Addr) (vs zs : List V) (ds es : List D), IsL M G vs ds → IsL M G zs es → ds.length = m → es.length = ks.length → IsL M G (gV (.ref a :: vs) zs) (.ref a :: g ds es) ∧ (g ds es).length + 1 = r) ∧ NewOk C sI s
def dNew (m : Nat) (ks : List Str) (g : List D → List D → List D) (s : DSp) (fa fk : DTA) : DTE := fun δ n q e => fa δ n (fun ds n1 => fk δ n1 (fun es n2 => ds.length = m ∧ es.length = ks.length ∧ s (g ds es) n2 q (e δ)) e) e
section
variable {X : Cx} {M : LK} {W : WX} {x : Str} {p pos : Pos} {e : Expr} {es : List Expr} {kws : List Keyword} {fa fk : DTA} {k j m : Nat} {ks : List Str} {g : List D → List D → List D} {s : DSp}
theorem new_lift {C : Addr} {gV : List V → List V → List V} {r : Nat} {sI : DSp} (hg : ∀ (G : Hp) (a : Addr) (vs zs : List V) (ds es : List D), IsL M G vs ds → IsL M G zs es → ds.length = m → es.length = ks.length → IsL M G (gV (.ref a :: vs) zs) (.ref a :: g ds es) ∧ (g ds es).length + 1 = r) (ok : NewOk C sI s)
    (σ : L2.St) (H : Hp) (Q : VK) (h : liftE M W (dNew m ks g s fa fk) σ H Q) : OB.tNew C m ks.length (lift M r sI) gV (fun σ cls d H' => W cls d σ H') (liftA M W fa) (liftA M W fk) σ H Q := by
  obtain ⟨pn, G, n, δ, q, e, R, hf, hQ, hX⟩ := h
  refine ⟨pn, G, n, δ, _, e, R, hf, fun G1 vs ds n1 H1 A1 R1 i1 h1 => ?_, hX⟩
  refine ⟨pn, G1, n1, δ, _, e, R1, h1, fun G2 zs es n2 H2 A2 R2 i2 h2 => ?_, hX.on R A1⟩
  obtain ⟨l1, l2, h2⟩ := h2
  refine ⟨i1.length.trans l1, i2.length.trans l2, fun a dx ha hd hne => ?_⟩
  have ha' : upd H2 dx (.own a) a = none := by rw [upd_ne (Ne.symm hne)]; exact ha
  obtain ⟨R3, A3⟩ := (R2.side (o := .own a) hd).mak (o := .ins C dx []) (u := .ins C dx [] []) ha' (by simp only [MIs, List.map_nil, IsL]; exact ⟨trivial, trivial, trivial, trivial⟩)
  have A12 := R.tr A1 A2
  obtain ⟨i3, l3⟩ := hg G2 a vs zs ds es (IsL.up A2.ge _ _ i1) i2 l1 l2
  refine ⟨pn, G2, _, _, _, _, R3.bare, i3, by simpa using l3, ok _ _ _ _ h2 a dx (R2.munone ha), fun G4 v d n4 H4 A4 R4 i4 h4 => ?_, fun G4 C' a' ns xs n4 H4 A4 R4 x4 h4 => ?_⟩
  · obtain ⟨rfl, ns, xs, dy, hm, h4⟩ := h4
    simp only [Is] at i4
    obtain ⟨G5, R5, A5, i5⟩ := frz_is R4 hm rfl
    exact ⟨i4, hQ G5 (.ref a) (.ins C ns xs) _ H4 ⟨(A12.ge.trans A4.ge).trans A5.ge⟩ (R3.back R5 ⟨A4.ge.trans A5.ge⟩) i5 h4⟩
  · exact hX G4 C' a' ns xs ⟨n4.at_, mup n4.mu a none⟩ H4 ⟨A12.ge.trans A4.ge⟩ ((R3.back R4 A4).sub ⟨Nat.le_refl _, fun b o e => by
      by_cases z : b = a
      · subst z
        rw [show (⟨n4.at_, mup n4.mu b none⟩ : NS).mu b = none from mup_same] at e
        cases e
      · rw [← e]
        exact (mup_ne z).symm⟩) x4 h4
theorem dp_newK (c : NewD X.prog X.w X.K X.mg X.base M k x m ks g s) (hr : Room j X.A) (hkj : k + 1 ≤ j) (tk : Takes X W) (hg : Gl X x) (ha : PA X (e :: es) (liftA M W fa)) (hkw : PK X kws (liftA M W fk))
    (hall : (backToKw pos (keywordEach kws X.env)).all (·.1.isSome) = true := by rfl) (hks : (backToKw pos (keywordEach kws X.env)).filterMap (·.1) = ks := by rfl) (hdb : (x == ("__debug__" : Str)) = false := by decide)
    (he : starEach (e :: es) X.env = (false, eval e X.env) :: starEach es X.env := by exact starEach_cons rfl) (hpl : ((backTo pos (starEach (e :: es) X.env)).any (·.1) || (backToKw pos (keywordEach kws X.env)).any (·.1.isNone)) = false := by rfl) : PE X (.Call (.Name x p) (e :: es) kws pos) (liftE M W (dNew m ks g s fa fk)) := by
  obtain ⟨C, f, fd, ps, gu, gV, r, sI, mk, hm, F, b, hgg, ok⟩ := c.ex
  exact PEw (OB.pe_newK mk F (hr.mono hkj) hg hm b (fun σ => passAt tk σ) ha hkw hall hks hdb he hpl) (new_lift hgg ok)
theorem dp_newP (c : NewD X.prog X.w X.K X.mg X.base M k x m [] g s) (hr : Room j X.A) (hkj : k + 1 ≤ j) (tk : Takes X W) (hg : Gl X x) (ha : PA X (e :: es) (liftA M W fa))
    (hdb : (x == ("__debug__" : Str)) = false := by decide) (he : starEach (e :: es) X.env = (false, eval e X.env) :: starEach es X.env := by exact starEach_cons rfl) (hpl : (backTo pos (starEach es X.env)).any (·.1) = false := by rfl) : PE X (.Call (.Name x p) (e :: es) [] pos) (liftE M W (dNew m [] g s fa dNil)) := by
  obtain ⟨C, f, fd, ps, gu, gV, r, sI, mk, hm, F, b, hgg, ok⟩ := c.ex
  refine PEw (OB.pe_newP mk F (hr.mono hkj) hg hm b (fun σ => passAt tk σ) ha hdb he hpl) fun σ H Q h => ?_
  obtain ⟨pn, G, n, δ, q, ex, R, hf, hQ, hX⟩ := new_lift hgg ok σ H Q h
  refine ⟨pn, G, n, δ, q, ex, R, hf, fun G' vs ds n' H' A' R' i' h' => ?_, hX⟩
  obtain ⟨pn2, G2, n2, δ2, q2, ex2, R2, hf2, hQ2, _⟩ := hQ G' vs ds n' H' A' R' i' h'
  exact hQ2 G2 [] [] n2 H' Adv.refl R2 (by simp only [IsL]) hf2
/-! ### methods -/
structure MetD (P : Program) (w : World) (K : PySem.W.Frag) (mg : Str → Option Value) (base : Heap) (M : LK) (k : Nat) (C : Addr) (y : Str) (ps : List Str) (s : DSp) : Prop where
  ex : ∃ f fd, Cls K C ∧ Meth K C y f ∧ FnOk P w K mg base (L2.CX P w) k f fd ps (lift M ps.length s) ∧ Binds K fd ps []
def dMet (C : Addr) (y : Str) (r : Nat) (s : DSp) (fo : DTE) (fa : DTA) : DTE := fun δ n q e => fo δ n (fun x n1 => match x with
  | .ins C' ns xs => C' = C ∧ y ∉ ns ∧ fa δ n1 (fun ds n2 => ds.length + 1 = r ∧ s (.ins C' ns xs :: ds) n2 q (e δ)) e
  | _ => False) e
theorem met_lift {C : Addr} {y : Str} {r : Nat} {fo : DTE} (σ : L2.St) (H : Hp) (Q : VK) (h : liftE M W (dMet C y r s fo fa) σ H Q) : OB.tMet C y (lift M r s) (fun σ cls d H' => W cls d σ H') (liftE M W fo) (liftA M W fa) σ H Q := by
  obtain ⟨pn, G, n, δ, q, e, R, hf, hQ, hX⟩ := h
  refine ⟨pn, G, n, δ, _, e, R, hf, fun G1 v x n1 H1 A1 R1 i1 h1 => ?_, hX⟩
  cases x with
  | ins C' ns xs =>
    obtain ⟨rfl, hy, h1⟩ := h1
    have i1' := i1
    simp only [Is] at i1'
    obtain ⟨a, dx, fs, rfl, g1, rfl, g3⟩ := i1'
    refine ⟨a, dx, fs, rfl, R1.ex _ _ g1, look_none hy, pn, G1, n1, δ, _, e, R1, h1, fun G2 vs ds n2 H2 A2 R2 i2 h2 => ?_, hX.on R A1⟩
    exact ⟨pn, G2, n2, _, q, e δ, R2.bare, by simp only [IsL]; exact ⟨Is.up A2.ge _ _ i1, i2⟩, (by simpa using h2.1), h2.2, fun G3 v d n3 H3 A3 R3 i3 h3 => hQ G3 v d n3 H3 (R.tr (R.tr A1 A2) A3) (R2.back R3 A3) i3 h3, fun G3 C a ns xs n3 H3 A3 R3 x3 h3 => hX G3 C a ns xs n3 H3 (R.tr (R.tr A1 A2) A3) (R2.back R3 A3) x3 h3⟩
  | _ => exact h1.elim
theorem dp_met {C : Addr} {y : Str} {ps : List Str} {o : Expr} {fo : DTE} {apos : Pos} {r : Nat} {pl : Sem Bool} (c : MetD X.prog X.w X.K X.mg X.base M k C y ps s) (hr : Room j X.A) (hkj : k ≤ j) (tk : Takes X W) (ho : PE X o (liftE M W fo)) (ha : PA X (e :: es) (liftA M W fa)) (hm : ps.length = r := by rfl)
    (hst : starEach (e :: es) X.env = (false, eval e X.env) :: starEach es X.env := by exact starEach_cons rfl) (hpl : (backTo pos (starEach es X.env)).any (·.1) = false := by rfl)
    (ht : eval (.Call (.Attribute o y apos) (e :: es) [] pos) X.env = (eval o X.env >>= fun ov => standAt apos.atName >>= fun _ => holding [ov] (getMethod ov y pl) >>= fun gf => callWith pos gf.1 gf.2 (backTo pos (starEach (e :: es) X.env)) (backToKw pos (keywordEach [] X.env))) := by rfl) :
    PE X (.Call (.Attribute o y apos) (e :: es) [] pos) (liftE M W (dMet C y r s fo fa)) := by
  subst hm
  obtain ⟨f, fd, cl, hm, F, b⟩ := c.ex
  exact PEw (OB.pe_met ho cl hm F (hr.mono hkj) b (fun σ => passAt tk σ) ha hst hpl ht) met_lift
theorem dp_met0 {C : Addr} {y : Str} {ps : List Str} {o : Expr} {fo : DTE} {apos : Pos} {r : Nat} {pl : Sem Bool} (c : MetD X.prog X.w X.K X.mg X.base M k C y ps s) (hr : Room j X.A) (hkj : k ≤ j) (tk : Takes X W) (ho : PE X o (liftE M W fo)) (hm : ps.length = r := by rfl)
    (ht : eval (.Call (.Attribute o y apos) [] [] pos) X.env = (eval o X.env >>= fun ov => standAt apos.atName >>= fun _ => holding [ov] (getMethod ov y pl) >>= fun gf => callWith pos gf.1 gf.2 (backTo pos (starEach [] X.env)) (backToKw pos (keywordEach [] X.env))) := by rfl) :
    PE X (.Call (.Attribute o y apos) [] [] pos) (liftE M W (dMet C y r s fo dNil)) := by
  subst hm
  obtain ⟨f, fd, cl, hm, F, b⟩ := c.ex
  refine PEw (OB.pe_met0 ho cl hm F (hr.mono hkj) b (fun σ => passAt tk σ) ht) fun σ H Q h => ?_
  obtain ⟨pn, G, n, δ, q, ex, R, hf, hQ, hX⟩ := met_lift σ H Q h
  refine ⟨pn, G, n, δ, q, ex, R, hf, fun G' v d n' H' A' R' i' h' => ?_, hX⟩
  obtain ⟨a, dx, fs, e1, e2, e3, pn2, G2, n2, δ2, q2, ex2, R2, hf2, hQ2, _⟩ := hQ G' v d n' H' A' R' i' h'
  exact ⟨a, dx, fs, e1, e2, e3, hQ2 G2 [] [] n2 H' Adv.refl R2 (by simp only [IsL]) hf2⟩
end
/-! ### == and != by an own __eq__ -/
section
variable {X : Cx} {M : LK} {W : WX}
structure EqD (P : Program) (w : World) (K : PySem.W.Frag) (mg : Str → Option Value) (base : Heap) (M : LK) (k : Nat) (C : Addr) (s : DSp) : Prop where
  ex : ∃ f fd ps, OB.EqC K C f ∧ FnOk P w K mg base (L2.CX P w) k f fd ps (lift M 2 s) ∧ Binds K fd ps []
/-- the one who compares is an instance of C; otherwise as gEq | gNe -/
def gEqO (K : PySem.W.Frag) (C : Addr) (s : DSp) (neg : Bool) : GR2 := fun x y n q => match x with
  | .ins C' ns xs => C' = C ∧ (∃ t, tyD K y t ∧ PySem.W.notFirst K C t = true) ∧ s [.ins C' ns xs, y] n (fun d n' => ∃ b : Bool, d = .bl b ∧ q (.bl (if neg then !b else b)) n') fun _ _ _ _ => False
  | x => eqD x y fun b => q (.bl (if neg then !b else b)) n
theorem own_is {C : Addr} {s : DSp} {neg : Bool} {pn : Addr} {G H : Hp} {n : NS} {σ : L2.St} {δ : DEnv} {v u : V} {y : D} {C' : Addr} {ns : List Str} {xs : List D} {q : D → NS → Prop} {Q : VK} (R : Rep M pn G n σ δ H) (ix : Is M G v (.ins C' ns xs)) (iy : Is M G u y) (h : gEqO M.L.K C s neg (.ins C' ns xs) y n q)
    (k : ∀ G' w d n' H', Adv pn G H G' H' → Rep M pn G' n' σ δ H' → Is M G' w d → q d n' → Q w H') : OB.rOwn M.L.K C (lift M 2 s) neg v u H Q := by
  obtain ⟨rfl, ⟨t, ht, hn⟩, h⟩ := h
  have ix' := ix
  simp only [Is] at ix'
  obtain ⟨a, dx, fs, rfl, g1, rfl, g3⟩ := ix'
  refine ⟨a, dx, fs, t, rfl, R.ex _ _ g1, tyD_ok R.ex ht iy, hn, pn, G, n, _, _, _, R.bare, by simp only [IsL]; exact ⟨ix, iy, trivial⟩, rfl, h, fun G1 w d n1 H1 A1 R1 i1 h1 => ?_, fun _ _ _ _ _ _ _ _ _ _ z => z.elim⟩
  obtain ⟨b, rfl, h1⟩ := h1
  simp only [Is] at i1
  exact ⟨b, i1, k G1 (.bl (if neg then !b else b)) (.bl (if neg then !b else b)) n1 H1 A1 (R.back R1 A1) (by simp only [Is]) h1⟩
theorem op_eqO {C : Addr} {s : DSp} {k j : Nat} (c : EqD X.prog X.w X.K X.mg X.base M k C s) (hK : X.K = M.L.K) (hr : Room j X.A) (hkj : k ≤ j) : OpR X (compareOp .Eq) (fun x y H Q => (rEq x y H Q ∨ rEqD M.L.K x y H Q) ∨ OB.rOwn M.L.K C (lift M 2 s) false x y H Q) := by
  obtain ⟨f, fd, ps, e, F, b⟩ := c.ex
  exact OpR.or (op_eqX hK (by have := hr.un; omega)) (hK ▸ OB.op_eqOwn e F (hr.mono hkj) b)
theorem op_neO {C : Addr} {s : DSp} {k j : Nat} (c : EqD X.prog X.w X.K X.mg X.base M k C s) (hK : X.K = M.L.K) (hr : Room j X.A) (hkj : k + 1 ≤ j) : OpR X (compareOp .NotEq) (fun x y H Q => (rNe x y H Q ∨ rNeD M.L.K x y H Q) ∨ OB.rOwn M.L.K C (lift M 2 s) true x y H Q) := by
  obtain ⟨f, fd, ps, e, F, b⟩ := c.ex
  exact OpR.or (op_neX hK (by have := hr.un; omega)) (hK ▸ OB.op_neOwn e F (hr.mono hkj) b)
theorem dr_eqO {C : Addr} {s : DSp} : DR2 M (fun x y H Q => (rEq x y H Q ∨ rEqD M.L.K x y H Q) ∨ OB.rOwn M.L.K C (lift M 2 s) false x y H Q) (gEqO M.L.K C s false) := by
  intro pn G n σ δ H v u x y q Q R ix iy h k
  cases x with
  | ins C' ns xs => exact .inr (own_is R ix iy h k)
  | _ => exact .inl (dr_eq pn G n σ δ H v u _ y q Q R ix iy (by simpa only [gEqO, gEq, Bool.false_eq_true, if_false] using h) k)
theorem dr_neO {C : Addr} {s : DSp} : DR2 M (fun x y H Q => (rNe x y H Q ∨ rNeD M.L.K x y H Q) ∨ OB.rOwn M.L.K C (lift M 2 s) true x y H Q) (gEqO M.L.K C s true) := by
  intro pn G n σ δ H v u x y q Q R ix iy h k
  cases x with
  | ins C' ns xs => exact .inr (own_is R ix iy h k)
  | _ => exact .inl (dr_ne pn G n σ δ H v u _ y q Q R ix iy (by simpa only [gEqO, gNe, if_true] using h) k)
end
end DL

set_option Elab.async false
set_option linter.all false
set_option maxRecDepth 100000
set_option maxHeartbeats 4000000
set_option autoImplicit false
/-! The data layer: lists that change, name op= e, numbers in texts. -/
namespace DL
open PySem PySem.Spec PyProof.Rows L2
section
variable {X : Cx} {M : LK} {W : WX}
/-! ### lists that change -/
def dApp (fo fe : DTE) : DTE := fun δ n q e => fo δ n (fun x n1 => ∃ a, x = .ref a ∧ (∃ xs, n1.mu a = some (.lst xs)) ∧ fe δ n1 (fun y n2 => ∃ xs, n2.mu a = some (.lst xs) ∧ xs.length < 100000 ∧ q .non ⟨n2.at_, mup n2.mu a (some (.lst (xs ++ [y])))⟩) e) e
theorem dp_app {o e : Expr} {apos pos : Pos} {fo fe : DTE} (h : PE X (.Call (.Attribute o "append" apos) [e] [] pos) (tBM X.K "list" rAppend (liftE M W fo) (liftA M W (dCons fe dNil)))) : PE X (.Call (.Attribute o "append" apos) [e] [] pos) (liftE M W (dApp fo fe)) :=
  PEw h fun σ H Q ⟨pn, G, n, δ, q, e, R, hf, hQ, hX⟩ => by
    refine ⟨pn, G, n, δ, _, e, R, hf, fun G1 v x n1 H1 A1 R1 i1 h1 => ?_, hX⟩
    obtain ⟨a, rfl, ⟨xs0, hm0⟩, h1⟩ := h1
    simp only [Is] at i1
    subst i1
    obtain ⟨u, g1, g2, _, _⟩ := R1.mu a _ hm0
    cases u <;> simp only [MIs] at g2
    refine ⟨.inl ⟨rfl, _, SqL.of g1⟩, pn, G1, n1, δ, fun ds n2 => ∃ y, ds = [y] ∧ ∃ xs, n2.mu a = some (.lst xs) ∧ xs.length < 100000 ∧ q .non ⟨n2.at_, mup n2.mu a (some (.lst (xs ++ [y])))⟩, e, R1, ?_, fun G2 vs ds n2 H2 A2 R2 i2 h2 => ?_, hX.on R A1⟩
    · simpa only [dCons, dNil, List.cons.injEq, and_true, exists_eq_left'] using h1
    · obtain ⟨y, rfl, xs, hm, hl, h2⟩ := h2
      obtain ⟨w, rfl, iw⟩ := i2.one
      obtain ⟨u, k1, k2, _, _⟩ := R2.mu a _ hm
      cases u <;> simp only [MIs] at k2
      rename_i vs
      refine ⟨a, vs, w, rfl, rfl, k1, by rw [k2.length]; exact Nat.lt_of_lt_of_le hl (le_line (Nat.le_refl _)), hQ G2 .non .non _ _ ⟨A1.ge.trans A2.ge⟩ (R2.chg hm ?_) (by simp only [Is]) h2⟩
      simp only [MIs]
      exact IsL.append k2 (by simp only [IsL]; exact ⟨iw, trivial⟩)
theorem IsL.set {G : Hp} : ∀ {ds : List D} {vs : List V} {i : Nat} {v : V} {d : D}, IsL M G vs ds → Is M G v d → IsL M G (vs.set i v) (ds.set i d)
  | [], [], _, _, _, h, _ => by simpa using h
  | d :: ds, v :: vs, 0, _, _, h, g => by
    simp only [IsL, List.set_cons_zero] at h ⊢
    exact ⟨g, h.2⟩
  | d :: ds, v :: vs, i + 1, _, _, h, g => by
    simp only [IsL, List.set_cons_succ] at h ⊢
    exact ⟨h.1, IsL.set h.2 g⟩
  | [], _ :: _, _, _, _, h, _ => by simp only [IsL] at h
  | _ :: _, [], _, _, _, h, _ => by simp only [IsL] at h
/-- o[i] = v, o a list that changes -/
def dgIx (fo fi : DTE) : DTG := fun d δ n q => fo δ n (fun x n1 => fi δ n1 (fun y n2 => ∃ a k j xs, x = .ref a ∧ y = .int k ∧ n2.mu a = some (.lst xs) ∧ ixN xs.length k = some j ∧ q δ ⟨n2.at_, mup n2.mu a (some (.lst (xs.set j d)))⟩) noX) noX
theorem dg_ix {o i : Expr} {pos : Pos} {fo fi : DTE} {vs : List Nat} (h : PG X (.Subscript o i pos) (L2.gSub (liftE M W fo) (liftE M W fi) rSetL)) : PG X (.Subscript o i pos) (liftG M vs (dgIx fo fi)) :=
  PGw h fun v σ H Q ⟨pn, G, n, δ, d, q, R, hi, hg, hQ⟩ => by
    refine ⟨pn, G, n, δ, _, noX, R, hg, fun G1 w x n1 H1 A1 R1 i1 h1 => ?_, XEnd.no noX_no⟩
    refine ⟨pn, G1, n1, δ, _, noX, R1, h1, fun G2 u y n2 H2 A2 R2 i2 h2 => ?_, XEnd.no noX_no⟩
    obtain ⟨a, k, j, xs, rfl, rfl, hm, hj, h2⟩ := h2
    simp only [Is] at i1 i2
    subst i1; subst i2
    obtain ⟨u, k1, k2, _, _⟩ := R2.mu a _ hm
    cases u <;> simp only [MIs] at k2
    rename_i us
    refine ⟨a, us, k, j, rfl, rfl, k1, by rw [k2.length]; exact hj, hQ G2 σ δ _ _ ⟨A1.ge.trans A2.ge⟩ (R2.chg hm ?_) rfl h2⟩
    simp only [MIs]
    exact IsL.set k2 (Is.up (A1.ge.trans A2.ge) d v hi)
/-- what a def has made for itself is forgotten at its end -/
def dForg (f : DTS) : DTS := fun k δ n => f { k with nx := fun δ' n' => ∃ n2, NS.Sub n2 n' ∧ k.nx δ' n2, rt := fun d n' => ∃ n2, NS.Sub n2 n' ∧ k.rt d n2, ex := fun δ' C ns xs n' => ∃ n2, NS.Sub n2 n' ∧ k.ex δ' C ns xs n2 } δ n
theorem dss_forg {b : List Stmt} {f : DTS} (h : PSs X b (liftS M W f)) : PSs X b (liftS M W (dForg f)) :=
  PSsw h fun D₀ σ H ⟨pn, G, n, δ, k, R, hf, s⟩ => ⟨pn, G, n, δ, _, R, hf, ⟨fun G' σ' δ' n' H' A' R' ⟨n2, h1, h2⟩ => s.nx G' σ' δ' n2 H' A' (R'.sub h1) h2, fun G' σ' δ' v d n' H' A' R' i' ⟨n2, h1, h2⟩ => s.rt G' σ' δ' v d n2 H' A' (R'.sub h1) i' h2, s.bk, s.ct,
    fun G' σ' δ' C a ns ds n' H' A' R' x' ⟨n2, h1, h2⟩ => s.ex G' σ' δ' C a ns ds n2 H' A' (R'.sub h1) x' h2⟩⟩
theorem sub_mup {t : Nat} {m : Addr → Option MO} {a : Addr} {o : Option MO} (h : m a = none) : NS.Sub ⟨t, m⟩ ⟨t, mup m a o⟩ := ⟨Nat.le_refl _, fun b u e => by
  show mup m a o b = some u
  rw [mup_ne fun z => by rw [z] at e; exact absurd (h.symm.trans e) (fun w => by cases w)]
  exact e⟩
/-! ### name += e, name -= e -/
def dAug (i : Nat) (g : Int → Int → Int) (fe : DTE) : DTS := fun k δ n => ∃ a, δ[i]? = some (some (.int a)) ∧ fe δ n (fun y n1 => ∃ b, y = .int b ∧ k.nx (δ.set i (some (.int (g a b)))) n1) k.ex
theorem ds_aug {st : Stmt} {i : Nat} {g : Int → Int → Int} {fe : DTE} (h : PS X st (tAug i (liftE M W fe) (ipI g))) : PS X st (liftS M W (dAug i g fe)) :=
  PSw h fun D₀ σ H ⟨pn, G, n, δ, k, R, ⟨a, ha, hf⟩, s⟩ => by
    obtain ⟨v, hv, iv⟩ := R.env.get ha
    simp only [Is] at iv
    subst iv
    refine ⟨_, hv, pn, G, n, δ, _, k.ex, R, hf, fun G1 w d n1 H1 A1 R1 i1 h1 => ?_, s.xe⟩
    obtain ⟨b, rfl, h1⟩ := h1
    simp only [Is] at i1
    exact ⟨a, b, rfl, i1, s.nx G1 _ _ n1 H1 A1 (R1.put (by simp only [Is])) h1⟩
/-! ### numbers in texts -/
/-- the decimal digits of a number, as codes -/
def decN (m : Nat) : List Nat := (Nat.toDigits 10 m).map Char.toNat
def decI (i : Int) : List Nat := if i < 0 then 45 :: decN i.natAbs else decN i.natAbs
theorem S_of {x : Str} {l : List Nat} (h : x.cps.toList = l) : x = S l := by
  cases x
  subst h
  rfl
theorem str_int (i : Int) : PySem.Str.ofString (toString i) = S (decI i) := by
  refine S_of ?_
  rw [signs_ofString]
  cases i with
  | ofNat m =>
    have : decI (Int.ofNat m) = decN m := by
      unfold decI
      rw [if_neg (by simp)]
      rfl
    rw [this]
    show (Nat.repr m).toList.map Char.toNat = _
    rw [Nat.toList_repr]
    rfl
  | negSucc m =>
    have : decI (Int.negSucc m) = 45 :: decN (m + 1) := by
      unfold decI
      rw [if_pos (by omega)]
      rfl
    rw [this]
    show ("-" ++ Nat.repr (m + 1)).toList.map Char.toNat = _
    rw [String.toList_append, List.map_append, Nat.toList_repr]
    rfl
def gStr : GC := fun xs n q => match xs with
  | [.int i] => i.natAbs.log2 < 1920 ∧ q (.str (decI i)) n
  | _ => False
theorem drc_str : DRC M (fun xs H Q => ∃ i : Int, xs = [.int i] ∧ i.natAbs.log2 < 1920 ∧ Q (.str (toString i)) H) gStr := by
  intro pn G n σ δ H vs xs q Q R iv h k
  unfold gStr at h
  split at h
  · rename_i i
    obtain ⟨v, rfl, iw⟩ := iv.one
    simp only [Is] at iw
    subst iw
    exact ⟨i, rfl, h.1, k G _ (.str (decI i)) n H Adv.refl R (by simp only [Is]; rw [str_int]) h.2⟩
  · exact h.elim
/-- int of an int, a truth, a text -/
def gIntT : GC := fun xs n q => match xs with
  | [.int i] => q (.int i) n
  | [.bl b] => q (.int (if b then 1 else 0)) n
  | [.str l] => l.length ≤ 640 ∧ ∃ i, PySem.intText? (S l) = some i ∧ q (.int i) n
  | _ => False
theorem drc_intT : DRC M (fun xs H Q => ((∃ i, xs = [.int i] ∧ Q (.int i) H) ∨ ∃ k : Bool, xs = [.bl k] ∧ Q (.int (if k then 1 else 0)) H) ∨ ∃ a i, xs = [.str a] ∧ PySem.intText? a = some i ∧ a.length ≤ 640 ∧ Q (.int i) H) gIntT := by
  intro pn G n σ δ H vs xs q Q R iv h k
  unfold gIntT at h
  split at h
  · rename_i i
    exact .inl (drc_int pn G n σ δ H vs [.int i] q Q R iv h k)
  · rename_i b
    exact .inl (drc_int pn G n σ δ H vs [.bl b] q Q R iv h k)
  · rename_i l
    obtain ⟨v, rfl, iw⟩ := iv.one
    simp only [Is] at iw
    subst iw
    obtain ⟨hl, i, hi, h⟩ := h
    exact .inr ⟨S l, i, rfl, hi, by rw [S_len]; exact hl, k G _ (.int i) n H Adv.refl R (by simp only [Is]) h⟩
  · exact h.elim
theorem cl_intT (hc : X.calm = true) : CallR X (.type "int") (fun xs H Q => ((∃ i, xs = [.int i] ∧ Q (.int i) H) ∨ ∃ k : Bool, xs = [.bl k] ∧ Q (.int (if k then 1 else 0)) H) ∨ ∃ a i, xs = [.str a] ∧ PySem.intText? a = some i ∧ a.length ≤ 640 ∧ Q (.int i) H) := CallR.or call_int1 call_int_str
/-! ### methods of texts -/
def gStarts : GM := fun x xs n q => match x, xs with
  | .str l, [.str b] => q (.bl (decide (l.take b.length = b))) n
  | _, _ => False
theorem starts_S (l b : List Nat) : Txt.startswith (S l) (S b) = decide (l.take b.length = b) := by
  unfold Txt.startswith Builtin.Str.subAt
  rw [S_len, S_len, Nat.zero_add]
  show (decide (b.length ≤ l.length) && (l.toArray.extract 0 b.length == b.toArray)) = _
  by_cases h : l.take b.length = b
  · rw [decide_eq_true h]
    have h1 : b.length ≤ l.length := by
      have := congrArg List.length h
      rw [List.length_take] at this
      omega
    rw [decide_eq_true h1, Bool.true_and]
    simp [h]
  · rw [decide_eq_false h]
    rw [Bool.and_eq_false_iff]
    right
    rw [beq_eq_false_iff_ne]
    intro z
    exact h (by simpa using z)
theorem drm_starts : DRM M (fun x xs H Q => ∃ a b, x = .str a ∧ xs = [.str b] ∧ Q (.bl (Txt.startswith a b)) H) gStarts := by
  intro pn G n σ δ H v vs x xs q Q R iv ivs h k
  unfold gStarts at h
  split at h
  · rename_i l b
    simp only [Is] at iv
    obtain ⟨u, rfl, iu⟩ := ivs.one
    simp only [Is] at iu
    exact ⟨S l, S b, iv, by rw [iu], k G _ (.bl (decide (l.take b.length = b))) n H Adv.refl R (by simp only [Is]; rw [starts_S]) h⟩
  · exact h.elim
/-- text.partition(sign) -/
def partL (c : Nat) (l : List Nat) : List Nat × List Nat × List Nat := if c ∈ l then (l.takeWhile (· != c), [c], (l.dropWhile (· != c)).tail) else (l, [], [])
theorem part_S (l : List Nat) (c : Nat) : Txt.partition (S l) (S [c]) = (S (partL c l).1, S (partL c l).2.1, S (partL c l).2.2) := by
  have h1 := StrLaws.found_one (S l) c
  rw [S_cps] at h1
  unfold partL
  by_cases hc : c ∈ l
  · rw [if_pos hc]
    rw [decide_eq_true hc] at h1
    have he : (Builtin.Str.occurrences (S l) ⟨#[c]⟩ 0 (S l).length 1).isEmpty = false := by simpa using h1
    have h2 := PyProof.Rows.from_first_some (x := S l) (y := ⟨#[c]⟩) (z := ⟨#[c]⟩) rfl rfl he
    have h2' := eq_of_beq h2
    rw [S_cps] at h2'
    cases ho : Builtin.Str.occurrences (S l) ⟨#[c]⟩ 0 (S l).length 1 with
    | nil => rw [ho] at he; simp at he
    | cons i rest =>
      have sp := (StrLaws.occ_spec (S l) ⟨#[c]⟩ 0 (S l).length 1 i (by rw [ho]; exact List.mem_cons_self)).1
      have hp : Txt.partition (S l) ⟨#[c]⟩ = (Builtin.Str.strSub (S l) 0 i, ⟨#[c]⟩, Builtin.Str.strSub (S l) (i + 1) (S l).length) := by
        unfold Txt.partition
        rw [ho]
        rfl
      have sp' : i + 1 ≤ l.length := by
        have : (⟨#[c]⟩ : Str).length = 1 := rfl
        rw [this, S_len] at sp
        exact sp
      have e3 : Builtin.Str.strSub (S l) (i + 1) (S l).length = S (l.drop (i + 1)) := by
        unfold Builtin.Str.strSub
        rw [S_len]
        simp
        rw [List.take_of_length_le (by rw [List.length_drop]; omega)]
      have e1 : Builtin.Str.strSub (S l) 0 i = S (l.take i) := by
        unfold Builtin.Str.strSub
        simp
      rw [hp] at h2'
      rw [e3] at h2'
      have h4 : c :: l.drop (i + 1) = l.dropWhile (· != c) := by
        have : S ([c] ++ l.drop (i + 1)) = S (l.dropWhile (· != c)) := by
          rw [← S_app]
          exact h2'
        exact S_inj.mp this
      have h5 : (l.takeWhile (· != c)).length = i := by
        have z := congrArg List.length (List.takeWhile_append_dropWhile (p := (· != c)) (l := l))
        rw [List.length_append, ← h4, List.length_cons, List.length_drop] at z
        omega
      have h6 : l.take i = l.takeWhile (· != c) := by
        have z := List.takeWhile_append_dropWhile (p := (· != c)) (l := l)
        have y : l.take i = (l.takeWhile (· != c) ++ l.dropWhile (· != c)).take i := by rw [z]
        rw [y, List.take_append_of_le_length (by omega), List.take_of_length_le (by omega)]
      show Txt.partition (S l) ⟨#[c]⟩ = _
      rw [hp, e1, e3, h6, ← h4]
      rfl
  · rw [if_neg hc]
    rw [decide_eq_false hc] at h1
    have he : (Builtin.Str.occurrences (S l) ⟨#[c]⟩ 0 (S l).length 1).isEmpty = true := by simpa using h1
    show Txt.partition (S l) ⟨#[c]⟩ = _
    unfold Txt.partition
    cases ho : Builtin.Str.occurrences (S l) ⟨#[c]⟩ 0 (S l).length 1 with
    | nil => rfl
    | cons i rest => rw [ho] at he; simp at he
def gPart : GM := fun x xs n q => match x, xs with
  | .str l, [.str [c]] => l.length ≤ 100000 ∧ q (.tup [.str (partL c l).1, .str (partL c l).2.1, .str (partL c l).2.2]) n
  | _, _ => False
theorem drm_part : DRM M (fun x xs H Q => ∃ a b, x = .str a ∧ xs = [.str b] ∧ (b.length == 0) = false ∧ a.length ≤ sizeLine ∧ ∀ p, H p = none → Q (.ref p) (upd H p (.tup [.str (Txt.partition a b).1, .str (Txt.partition a b).2.1, .str (Txt.partition a b).2.2]))) gPart := by
  intro pn G n σ δ H v vs x xs q Q R iv ivs h k
  unfold gPart at h
  split at h
  · rename_i l c
    simp only [Is] at iv
    obtain ⟨u, rfl, iu⟩ := ivs.one
    simp only [Is] at iu
    refine ⟨S l, S [c], iv, by rw [iu], rfl, by rw [S_len]; exact le_line h.1, fun p hp => ?_⟩
    rw [part_S]
    obtain ⟨R2, A2⟩ := R.lay (o := .tup [.str (S (partL c l).1), .str (S (partL c l).2.1), .str (S (partL c l).2.2)]) hp notTbl_tup
    exact k _ _ _ n _ A2 R2 (by simp only [Is]; exact ⟨p, _, rfl, SqT.of upd_same, by simp only [IsL, Is]; exact ⟨trivial, trivial, trivial, trivial⟩⟩) h.2
  · exact h.elim
theorem pe_startsX {o e : Expr} {to te : TE} {apos pos : Pos} (ho : PE X o to) (he : PE X e te) (hs : starEach [e] X.env = [(false, eval e X.env)] := by rfl) (hbase : attributeBase o "startswith" X.env (eval o X.env) = eval o X.env := by rfl) (hline : (apos.endLine == pos.line) = true := by rfl) :
    PE X (.Call (.Attribute o "startswith" apos) [e] [] pos) (tM1 (fun x xs H Q => ∃ a b, x = .str a ∧ xs = [.str b] ∧ Q (.bl (Txt.startswith a b)) H) to te) :=
  pe_m1 F.slot_str_startswith F.type_str_startswith mt_startswith ho he hs hbase hline
end
end DL

set_option Elab.async false
set_option linter.all false
set_option maxRecDepth 100000
set_option maxHeartbeats 4000000
set_option autoImplicit false
/-! sorted(l, key = lambda x: ..): two items, keys that are pairs of an int and a truth. -/
namespace SKy
open PySem PySem.Spec PyProof.Rows L2 SrtO
/-- v is a tuple of an int and a truth in the heap -/
def IsPB (h : Heap) (v : Value) (x : Int) (b : Bool) : Prop := ∃ a o t n, v = .ref a ∧ h.get? a = some o ∧ o.cls = .type "tuple" ∧ o.data = .seq #[.int x t, .bool b] n
theorem IsPB.keeps {h h' : Heap} {v : Value} {x : Int} {b : Bool} (p : IsPB h v x b) (k : ∀ b o, h.get? b = some o → o.cls = .type "tuple" → h'.get? b = some o) : IsPB h' v x b := by
  obtain ⟨a, o, t, n, e, ho, hc, hd⟩ := p
  exact ⟨a, o, t, n, e, k _ _ ho hc, hc, hd⟩
abbrev kz (k : Value → Int × Bool) (v : Value) : Int × Int := ((k v).1, b2i (k v).2)
section
variable {prog : Program} {w : World} {A : Around} {E : Value → Shared → Prop} {s : Shared}
theorem pb_cmp {vs : List Value} {k : Value → Int × Bool} (hp : ∀ v ∈ vs, IsPB s.heap v (k v).1 (k v).2) : Cmp prog w A s (tuples' true) (fun p => p.1 ∈ vs) (lt2 fun v u => lexB (kz k v) (kz k u)) := by
  intro p q hm hm'
  have h1 := hp _ hm
  have h2 := hp _ hm'
  show wpAny (model prog w) A (keyLt' (tuples' true) p.1 q.1) (fun r s' => s' = s ∧ r = lexB (kz k p.1) (kz k q.1)) (fun _ _ => False) s
  unfold lexB kz
  generalize (k p.1).1 = x at h1 ⊢
  generalize (k p.1).2 = y at h1 ⊢
  generalize (k q.1).1 = x' at h2 ⊢
  generalize (k q.1).2 = y' at h2 ⊢
  obtain ⟨a, o, t, n, e, ho, hc, hd⟩ := h1
  obtain ⟨a', o', t', n', e', ho', hc', hd'⟩ := h2
  rw [e, e']
  refine PySem.W.kat_lt ho hd ho' hd' ?_
  show PySem.W.KatLex prog w A true (decide (2 < 2)) _ [(.int x t, .int x' t'), (.bool y, .bool y')] 0 s
  refine PySem.W.kat_cons (SeqAt.EqAt.int_int x t x' t' prog w _ _ ?_)
  refine PySem.W.kat_go (fun e1 => ?_) (fun e1 => ?_)
  · have ex : x = x' := by simpa using e1
    refine PySem.W.kat_yes (PySem.W.kat_cons (SeqAt.EqAt.bool_bool y y' prog w _ _ ?_))
    refine PySem.W.kat_go (fun e2 => ?_) (fun e2 => ?_)
    · have ey : y = y' := by simpa using e2
      have e3 : (if x = x' then decide (b2i y < b2i y') else decide (x < x')) = false := by
        rw [if_pos ex, ey]
        exact decide_eq_false (Int.lt_irrefl _)
      exact PySem.W.kat_yes (PySem.W.kat_nil ⟨rfl, e3.symm⟩)
    · have e3 : (if x = x' then decide (b2i y < b2i y') else decide (x < x')) = decide (b2i y < b2i y') := if_pos ex
      refine PySem.W.kat_no (PySem.W.kat_one _ _ (PyProof.Rows.lt_bool ?_))
      exact (show s = s ∧ decide (b2i y < b2i y') = (if x = x' then decide (b2i y < b2i y') else decide (x < x')) from ⟨rfl, e3.symm⟩)
  · have ex : ¬ x = x' := by simpa using e1
    have e3 : (if x = x' then decide (b2i y < b2i y') else decide (x < x')) = decide (x < x') := if_neg ex
    exact PySem.W.kat_no (oneLt_int ⟨rfl, e3.symm⟩)
theorem pb_kind {v1 v2 : Value} {x1 x2 : Int} {b1 b2 : Bool} {Q : SortKind → Shared → Prop} (h1 : IsPB s.heap v1 x1 b1) (h2 : IsPB s.heap v2 x2 b2) (h : Q (tuples' true) s) : wpAny (model prog w) A (keyKind' #[v1, v2]) Q E s := by
  obtain ⟨a, o, t, n, rfl, ho, hc, hd⟩ := h1
  obtain ⟨a', o', t', n', rfl, ho', hc', hd'⟩ := h2
  refine PySem.W.kat_kind (vs := [.ref a, .ref a']) (fs := [.int x1 t, .int x2 t']) (T := .type "int") (.cons ho hc hd rfl (.cons ho' hc' hd' rfl .nil)) (by simp) (fun f hm => ?_) (by rfl) ?_
  · simp only [List.mem_cons, List.not_mem_nil, or_false] at hm
    rcases hm with rfl | rfl <;> exact PySem.W.Looks.now
  · have e : (Value.type "int" != Value.type "tuple") = true := by first | decide +kernel | rfl | decide
    rw [e]
    exact h
end
theorem two_out {α : Type} {lt : α → α → Bool} (O : Swo lt) {p q : α} {out : List α} (hs : Srtd lt out) (hb : Stb lt out [p, q]) : out = if lt q p then [q, p] else [p, q] := by
  cases e : lt q p with
  | true =>
    rw [if_pos rfl]
    refine stb_uniq O hs ?_ (hb.trans ?_)
    · refine List.pairwise_cons.mpr ⟨fun y hy => ?_, List.pairwise_singleton _ _⟩
      rw [List.mem_singleton.mp hy]
      exact O.asym _ _ e
    · have z : Stb lt ([q] ++ [p]) ([p] ++ [q]) := Stb.swap O fun a ha b hb => by
        rw [List.mem_singleton.mp ha, List.mem_singleton.mp hb]
        exact e
      exact ⟨z.perm.symm, fun x => (z.cls x).symm⟩
  | false =>
    rw [if_neg (by simp)]
    refine stb_uniq O hs ?_ hb
    refine List.pairwise_cons.mpr ⟨fun y hy => ?_, List.pairwise_singleton _ _⟩
    rw [List.mem_singleton.mp hy]
    exact e

section
variable {X : Cx} {pins : List (Addr × Obj)} {σ : L2.St} {H : Hp} {s : Shared} {A : Around} {E : Value → Shared → Prop}
/-- what a key is -/
def KeyV (X : Cx) (H : Hp) (u : Value) (k : Int × Bool) : Prop := ∃ t, u = .ref t ∧ SqT X.K H t [.int k.1, .bl k.2]
def Ext' (H H' : Hp) : Prop := ∀ b o, H b = some o → H' b = some o
theorem KeyV.ext {H H' : Hp} {u : Value} {k : Int × Bool} (h : KeyV X H u k) (e : Ext' H H') : KeyV X H' u k := by
  obtain ⟨t, h1, h2⟩ := h
  exact ⟨t, h1, DL.Ext.seqT e h2⟩
theorem KeyV.pb {u : Value} {k : Int × Bool} (I : Inv X pins σ H s) (h : KeyV X H u k) : IsPB s.heap u k.1 k.2 := by
  obtain ⟨t, rfl, h⟩ := h
  obtain ⟨its, r, ⟨o, ho, hc, n, hd⟩, _⟩ := I.tuple h
  cases r with
  | cons r1 r =>
    cases r with
    | cons r2 r =>
      cases r
      obtain ⟨tk, rfl⟩ := r1
      cases (show _ = Value.bool k.2 from r2)
      exact ⟨t, o, tk, n, rfl, ho, hc, hd⟩
theorem KeyV.inj {u : Value} {k k' : Int × Bool} (I : Inv X pins σ H s) (h : KeyV X H u k) (h' : KeyV X H u k') : k = k' := by
  obtain ⟨t, rfl, h⟩ := h
  obtain ⟨t', e, h'⟩ := h'
  cases e
  have z := I.tuple_inj h h'
  simp only [List.cons.injEq, V.int.injEq, V.bl.injEq, and_true] at z
  exact Prod.ext z.1 z.2
/-- the sort itself: keys q1, q2 of v1, v2 stand in the list at kS -/
theorem sk_end {a kS : Addr} {v1 v2 q1 q2 : Value} {k1 k2 : Int × Bool} {e e1 : Nat} {P : PySem.Fin → Shared → Prop} (I : Inv X pins σ H s) (fa : FpOk X pins H a) (fk : FpOk X pins H kS) (hka : kS ≠ a)
    (ha : s.heap.get? a = some (seqObj "list" #[] e1)) (hk : s.heap.get? kS = some (seqObj "list" #[q1, q2] e)) (h1 : KeyV X H q1 k1) (h2 : KeyV X H q2 k2)
    (h : ∀ s' n, Inv X pins σ H s' → s'.heap.get? a = some (seqObj "list" (if lexB (k2.1, b2i k2.2) (k1.1, b2i k1.2) then #[v2, v1] else #[v1, v2]) n) → P (.done (.ret .none)) s') :
    wpAny (model X.prog X.w) A (ksk_end a false #[v1, v2] e1 (.ref kS) #[q1, q2]) P E s := by
  unfold ksk_end
  try dsimp only
  rw [if_neg (by simp), if_neg (by simp)]
  refine wpAny_bind (pb_kind (h1.pb I) (h2.pb I) ?_)
  obtain ⟨k, e1', e2'⟩ : ∃ k : Value → Int × Bool, k q1 = k1 ∧ k q2 = k2 := by
    by_cases z : q1 = q2
    · subst z
      exact ⟨fun _ => k1, rfl, h1.inj I h2⟩
    · exact ⟨fun v => if v = q1 then k1 else k2, if_pos rfl, if_neg (Ne.symm z)⟩
  have hT : Cmp X.prog X.w A s (tuples' true) (fun p => p.1 ∈ [q1, q2]) (lt2 fun v u => lexB (kz k v) (kz k u)) := pb_cmp fun v hv => by
    simp only [List.mem_cons, List.not_mem_nil, or_false] at hv
    rcases hv with rfl | rfl
    · rw [e1']; exact h1.pb I
    · rw [e2']; exact h2.pb I
  have ez : (arrOf (SortSt.mk' (tuples' true) (#[q1, q2].zip #[v1, v2]) #[] 7 none)).toList = [(q1, v1), (q2, v2)] := by
    show (#[q1, q2].zip #[v1, v2]).toList = _
    simp
  refine wpAny_bind (wpAny_mono (wpS_sortO (st0 := SortSt.mk' (tuples' true) (#[q1, q2].zip #[v1, v2]) #[] 7 none)
    (Q := fun _ st' => Srtd (lt2 fun v u => lexB (kz k v) (kz k u)) (arrOf st').toList ∧ Stb (lt2 fun v u => lexB (kz k v) (kz k u)) (arrOf st').toList [(q1, v1), (q2, v2)] ∧ failedOf st' = none) (swo2 (swo_lex (kz k))) hT rfl (fun p hp => ?_) rfl rfl fun st' a1 a2 a3 => ⟨a1, by rw [ez] at a2; exact a2, a3⟩) ?_ fun _ _ e => e)
  · have hp' : p ∈ [(q1, v1), (q2, v2)] := by
      rw [ez] at hp
      exact hp
    simp only [List.mem_cons, List.not_mem_nil, or_false] at hp' ⊢
    rcases hp' with rfl | rfl
    · exact .inl rfl
    · exact .inr rfl
  rintro ⟨⟨⟩, st'⟩ s' ⟨rfl, hs, hb, hf⟩
  try dsimp only
  have out := two_out (swo2 (swo_lex (kz k))) hs hb
  have out2 : (arrOf st').map (·.2) = if lexB (k2.1, b2i k2.2) (k1.1, b2i k1.2) then #[v2, v1] else #[v1, v2] := by
    have z : ((arrOf st').map (·.2)).toList = (if lexB (k2.1, b2i k2.2) (k1.1, b2i k1.2) then #[v2, v1] else #[v1, v2] : Array Value).toList := by
      rw [Array.toList_map, out]
      show List.map _ (if lexB (kz k q2) (kz k q1) = true then _ else _) = _
      rw [show kz k q2 = (k2.1, b2i k2.2) by unfold kz; rw [e2'], show kz k q1 = (k1.1, b2i k1.2) by unfold kz; rw [e1']]
      split <;> rfl
    rw [← Array.toArray_toList (xs := (arrOf st').map (·.2)), z]
  unfold ksk_tail
  try dsimp only
  have na1 : (s'.heap.update kS (Obj.mapSeq fun _ => (#[] : Array Value))).get? a = some (seqObj "list" #[] e1) := (Heap.get?_update_ne _ _ _ _ hka.symm).trans ha
  refine wpAny_bind (listUpdate_at hk rfl ?_ (by rw [sizeLine_eq]; simp) (Nat.zero_le _))
  refine wpAny_bind (wpAny_letGo ?_)
  refine wpAny_bind (seqEpoch_at na1 rfl ?_)
  have hsz : (if lexB (k2.1, b2i k2.2) (k1.1, b2i k1.2) then #[v2, v1] else #[v1, v2] : Array Value).size ≤ sizeLine + 1 := by
    rw [sizeLine_eq]
    split <;> simp
  simp only [Bool.false_eq_true, if_false]
  rw [out2]
  refine wpAny_bind (listUpdate_at na1 rfl ?_ (Nat.zero_le _) hsz)
  rw [hf]
  simp only [bne_self_eq_false, Bool.false_eq_true, if_false]
  obtain ⟨n, hn⟩ : ∃ n, ((s'.heap.update kS (Obj.mapSeq fun _ => (#[] : Array Value))).update a (Obj.mapSeq fun _ => if lexB (k2.1, b2i k2.2) (k1.1, b2i k1.2) then #[v2, v1] else #[v1, v2])).get? a = some (seqObj "list" (if lexB (k2.1, b2i k2.2) (k1.1, b2i k1.2) then #[v2, v1] else #[v1, v2]) n) :=
    ⟨_, get?_update_seq na1 fun _ => if lexB (k2.1, b2i k2.2) (k1.1, b2i k1.2) then #[v2, v1] else #[v1, v2]⟩
  refine wpAny_pure (h _ n (Inv.turnedL (t' := s'.toks) (ch := [kS, a]) I (fun b o hb q => ?_) fun b hb => ?_) hn)
  · simp only [List.mem_cons, List.not_mem_nil, or_false, not_or] at hb
    exact (Heap.get?_update_ne _ _ _ _ hb.2).trans ((Heap.get?_update_ne _ _ _ _ hb.1).trans q)
  · simp only [List.mem_cons, List.not_mem_nil, or_false] at hb
    rcases hb with rfl | rfl
    · exact fk
    · exact fa
/-- what a pinned thing must be -/
def PinB (X : Cx) (H : Hp) (b : Addr) : Prop := H b = none ∧ b ≠ X.env.locals ∧ b ∉ X.fs
theorem pinB_of {pl : List (Addr × Obj)} {H1 : Hp} {s1 : Shared} {b : Addr} {o : Obj} (I : Inv X (pins ++ pl) σ H1 s1) (m : (b, o) ∈ pl) : PinB X H1 b ∧ s1.heap.get? b = some o := by
  obtain ⟨z1, z2, z3, z4, _⟩ := I.pin (b, o) (List.mem_append_right _ (List.mem_append_right _ m))
  exact ⟨⟨z2, z3, z4⟩, z1⟩
theorem pin3 {fp : List Addr} (I : Inv X pins σ H s) (hf : ∀ b ∈ fp, PinB X H b) (ho : ∀ b ∈ fp, ∃ o, s.heap.get? b = some o ∧ ∀ v, o.data ≠ .cell v) : Inv X (pins ++ pinsAt fp s.heap) σ H s :=
  I.pins_of fun p hp => (List.mem_append.mp hp).elim (fun z => I.pin p (List.mem_append_right _ z)) fun z => by
    obtain ⟨hb, e⟩ := of_pinsAt z
    obtain ⟨f0, f1, f2⟩ := hf p.1 hb
    obtain ⟨o, e', d⟩ := ho p.1 hb
    rw [e] at e'
    cases e'
    exact ⟨e, f0, f1, f2, d⟩
theorem FpOk.pb {b : Addr} (f : FpOk X pins H b) : PinB X H b := ⟨f.1, f.2.1, f.2.2.1⟩
theorem fp_of {pl : List (Addr × Obj)} {H1 : Hp} {s1 : Shared} {b : Addr} {o : Obj} (f : FpOk X pins H b) (I : Inv X (pins ++ pl) σ H1 s1) (m : (b, o) ∈ pl) : FpOk X pins H1 b ∧ s1.heap.get? b = some o := by
  obtain ⟨z1, z2, z3, z4, _⟩ := I.pin (b, o) (List.mem_append_right _ (List.mem_append_right _ m))
  exact ⟨⟨z2, z3, z4, f.2.2.2⟩, z1⟩
/-- the loop over the items, and what follows -/
theorem sk_rest {T : Hp → Hp → Prop} {G : Hp} {a kS f : Addr} {fo : Obj} {v1 v2 : Value} {k1 k2 : Int × Bool} {e e1 : Nat} {P : PySem.Fin → Shared → Prop} (I : Inv X pins σ H s) (fa : FpOk X pins H a) (fk : FpOk X pins H kS) (ff : PinB X H f) (hka : kS ≠ a) (hkf : kS ≠ f)
    (ha : s.heap.get? a = some (seqObj "list" #[] e1)) (hk : s.heap.get? kS = some (seqObj "list" #[] e)) (hf : s.heap.get? f = some fo) (hc : ∀ v, fo.data ≠ .cell v)
    (hT : ∀ G H, T G H → Ext' G H) (t0 : T G H)
    (turn : ∀ v k, (v, k) ∈ [(v1, k1), (v2, k2)] → ∀ pl G1 H1 s1, Inv X (pins ++ pl) σ H1 s1 → T G1 H1 → Ext' G G1 → (f, fo) ∈ pl → wpAny (model X.prog X.w) A (call (.ref f) [v]) (fun r s2 => ∃ G2 H2, Inv X (pins ++ pl) σ H2 s2 ∧ T G2 H2 ∧ Ext' G1 G2 ∧ KeyV X G2 r k) (fun _ _ => False) s1)
    (h : ∀ G' H' s' n, Inv X pins σ H' s' → T G' H' → Ext' G G' → s'.heap.get? a = some (seqObj "list" (if lexB (k2.1, b2i k2.2) (k1.1, b2i k1.2) then #[v2, v1] else #[v1, v2]) n) → FpOk X pins H' a → P (.done (.ret .none)) s') :
    wpAny (model X.prog X.w) A (ksk_rest a (.ref f) false #[v1, v2] e1 (.ref kS)) P E s := by
  unfold ksk_rest
  refine wpAny_bind (wpAny_rule ?_)
  rw [← Array.forIn_toList]
  refine wpAny_bind (ksk_fold (fun i s' => ∃ G1 H1 ks e', Inv X pins σ H1 s' ∧ T G1 H1 ∧ Ext' G G1 ∧ FpOk X pins H1 a ∧ FpOk X pins H1 kS ∧ PinB X H1 f ∧ s'.heap.get? a = some (seqObj "list" #[] e1) ∧ s'.heap.get? kS = some (seqObj "list" ks e') ∧ s'.heap.get? f = some fo ∧
    ks.size = i ∧ ∀ j k, j < i → [k1, k2][j]? = some k → ∃ q, ks[j]? = some q ∧ KeyV X G1 q k) [v1, v2] 0 s ⟨G, H, #[], e, I, t0, fun _ _ z => z, fa, fk, ff, ha, hk, hf, rfl, fun j k z => absurd z (Nat.not_lt_zero _)⟩ ?step ?done)
  case step =>
    rintro j x s' hx ⟨G1, H1, ks, e', I1, t1, x1, fa1, fk1, ff1, ha1, hk1, hf1, hz, hq⟩
    simp only [Nat.zero_add] at hz hq ⊢
    have hj : j < 2 := (List.getElem?_eq_some_iff.mp hx).1
    obtain ⟨k, hkj⟩ : ∃ k, [k1, k2][j]? = some k := ⟨_, List.getElem?_eq_getElem (by simpa using hj)⟩
    have hm : (x, k) ∈ [(v1, k1), (v2, k2)] := by
      match j, hj, hx, hkj with
      | 0, _, hx, hkj => cases hx; cases hkj; simp
      | 1, _, hx, hkj => cases hx; cases hkj; simp
    have I2 := pin3 (fp := [f, a, kS]) I1 (fun b hb => by
      simp only [List.mem_cons, List.not_mem_nil, or_false] at hb
      rcases hb with rfl | rfl | rfl
      · exact ff1
      · exact FpOk.pb fa1
      · exact FpOk.pb fk1) (fun b hb => by
      simp only [List.mem_cons, List.not_mem_nil, or_false] at hb
      rcases hb with rfl | rfl | rfl
      · exact ⟨_, hf1, hc⟩
      · exact ⟨_, ha1, fun v z => by cases z⟩
      · exact ⟨_, hk1, fun v z => by cases z⟩)
    refine wpAny_bind (wpAny_attempt (wpAny_mono (turn x k hm _ G1 H1 s' I2 t1 x1 (mem_pinsAt (by simp) hf1)) (fun r s2 he => ?_) fun _ _ hF => hF.elim))
    obtain ⟨G2, H2, I3, t2, x2, kq⟩ := he
    obtain ⟨fa2, ha2⟩ := fp_of fa1 I3 (mem_pinsAt (by simp) ha1)
    obtain ⟨fk2, hk2⟩ := fp_of fk1 I3 (mem_pinsAt (by simp) hk1)
    obtain ⟨ff2, hf2⟩ := pinB_of I3 (mem_pinsAt (by simp) hf1)
    try dsimp only
    obtain ⟨c2, hc2⟩ : ∃ c2, (s2.heap.update kS (Obj.mapSeq (·.push r))).get? kS = some (seqObj "list" (ks.push r) c2) := ⟨_, get?_update_seq hk2 (·.push r)⟩
    refine wpAny_bind (listUpdate_at hk2 rfl ?_ (by rw [sizeLine_eq]; omega) (Nat.le_trans (Nat.le_of_eq (Array.size_push ..)) (by rw [sizeLine_eq]; omega)))
    refine wpAny_pure ⟨rfl, G2, H2, ks.push r, c2, Inv.turnedL (t' := s2.toks) (ch := [kS]) I3.unpinned (fun b o hb q => ?_) (fun b hb => ?_), t2, fun b o z => x2 b o (x1 b o z), fa2, fk2, ff2, (Heap.get?_update_ne _ _ _ _ hka.symm).trans ha2, hc2, (Heap.get?_update_ne _ _ _ _ hkf.symm).trans hf2, by rw [Array.size_push, hz], fun i k' hi hk' => ?_⟩
    · exact (Heap.get?_update_ne _ _ _ _ (by simpa using hb)).trans q
    · rw [List.mem_singleton.mp hb]
      exact fk2
    · by_cases z : i = j
      · subst z
        rw [hkj] at hk'
        cases hk'
        exact ⟨r, by rw [← hz, Array.getElem?_push_size], kq⟩
      · obtain ⟨q, q1, q2⟩ := hq i k' (by omega) hk'
        exact ⟨q, by rw [Array.getElem?_push_lt (by omega)]; rw [Array.getElem?_eq_getElem (by omega)] at q1; exact q1, q2.ext x2⟩
  case done =>
    rintro s' ⟨G1, H1, ks, e', I1, t1, x1, fa1, fk1, ff1, ha1, hk1, hf1, hz, hq⟩
    simp only [List.length_cons, List.length_nil, Nat.zero_add] at hz hq
    obtain ⟨q1, a1, b1⟩ := hq 0 k1 (by decide) rfl
    obtain ⟨q2, a2, b2⟩ := hq 1 k2 (by decide) rfl
    obtain rfl : ks = #[q1, q2] := by
      match ks, hz, a1, a2 with
      | ⟨[x, y]⟩, _, a1, a2 =>
        simp at a1 a2
        rw [a1, a2]
    try dsimp only
    refine wpAny_bind (listItems_at hk1 rfl ?_)
    exact sk_end I1 fa1 fk1 hka ha1 hk1 (b1.ext (hT _ _ t1)) (b2.ext (hT _ _ t1)) fun s2 n I2 z => h G1 H1 s2 n I2 t1 x1 z fa1
theorem sk_tree {T : Hp → Hp → Prop} {G : Hp} {a f : Addr} {fo : Obj} {v1 v2 : Value} {k1 k2 : Int × Bool} {n : Nat} {P : PySem.Fin → Shared → Prop} (I : Inv X pins σ H s) (fa : FpOk X pins H a) (ff : PinB X H f) (haf : f ≠ a)
    (ha : s.heap.get? a = some (seqObj "list" #[v1, v2] n)) (hf : s.heap.get? f = some fo) (hc : ∀ v, fo.data ≠ .cell v)
    (hT : ∀ G H, T G H → Ext' G H) (t0 : T G H)
    (turn : ∀ v k, (v, k) ∈ [(v1, k1), (v2, k2)] → ∀ pl G1 H1 s1, Inv X (pins ++ pl) σ H1 s1 → T G1 H1 → Ext' G G1 → (f, fo) ∈ pl → wpAny (model X.prog X.w) A (call (.ref f) [v]) (fun r s2 => ∃ G2 H2, Inv X (pins ++ pl) σ H2 s2 ∧ T G2 H2 ∧ Ext' G1 G2 ∧ KeyV X G2 r k) (fun _ _ => False) s1)
    (h : ∀ G' H' s' n, Inv X pins σ H' s' → T G' H' → Ext' G G' → s'.heap.get? a = some (seqObj "list" (if lexB (k2.1, b2i k2.2) (k1.1, b2i k1.2) then #[v2, v1] else #[v1, v2]) n) → FpOk X pins H' a → P (.done (.ret .none)) s') :
    wpAny (model X.prog X.w) A (ksk_tree a (.ref f) false) P E s := by
  have ha' : a < s.heap.objs.size := Heap.lt_size ha
  have hf' : f < s.heap.objs.size := Heap.lt_size hf
  obtain ⟨e1, ho1⟩ : ∃ e1, (s.heap.update a (Obj.mapSeq fun _ => (#[] : Array Value))).get? a = some (seqObj "list" #[] e1) := ⟨_, get?_update_seq ha fun _ => #[]⟩
  have hkS : ((s.heap.update a (Obj.mapSeq fun _ => (#[] : Array Value))).push (seqObj "tuple" #[v1, v2] 0)).objs.size = s.heap.objs.size + 1 := by rw [size_push', Heap.size_update]
  have keep : ∀ b o, b ≠ a → s.heap.get? b = some o → (((s.heap.update a (Obj.mapSeq fun _ => (#[] : Array Value))).push (seqObj "tuple" #[v1, v2] 0)).push (seqObj "list" #[] 0)).get? b = some o := fun b o hb q =>
    Heap.get?_push_of_some _ (Heap.get?_push_of_some _ ((Heap.get?_update_ne _ _ _ _ hb).trans q))
  unfold ksk_tree
  refine wpAny_bind (listItems_at ha rfl ?_)
  refine wpAny_bind (listUpdate_at ha rfl ?_ (by rw [sizeLine_eq]; simp) (Nat.zero_le _))
  refine wpAny_bind (seqEpoch_at ho1 rfl ?_)
  refine wpAny_bind (wpAny_newTuple ?_ (by show 2 ≤ _; rw [sizeLine_eq]; omega))
  refine wpAny_bind (wpAny_newList ?_ (Nat.zero_le _))
  refine wpAny_holding ?_
  have I1 : Inv X pins σ H { s with heap := ((s.heap.update a (Obj.mapSeq fun _ => (#[] : Array Value))).push (seqObj "tuple" #[v1, v2] 0)).push (seqObj "list" #[] 0) } :=
    Inv.turnedL (t' := s.toks) (ch := [a]) I (fun b o hb q => keep b o (by simpa using hb) q) fun b hb => by
      rw [List.mem_singleton.mp hb]
      exact fa
  have fk : FpOk X pins H (s.heap.objs.size + 1) := I.fpOk (Nat.le_succ _) (I.hok.fresh (Nat.le_succ _))
  refine sk_rest (kS := ((s.heap.update a (Obj.mapSeq fun _ => (#[] : Array Value))).push (seqObj "tuple" #[v1, v2] 0)).objs.size) (e := 0) I1 fa (by rw [hkS]; exact fk) ff (by rw [hkS]; exact Nat.ne_of_gt (Nat.lt_succ_of_lt ha')) (by rw [hkS]; exact Nat.ne_of_gt (Nat.lt_succ_of_lt hf')) (Heap.get?_push_of_some _ (Heap.get?_push_of_some _ ho1)) (Heap.get?_push_size _ rfl) (keep f _ haf hf) hc hT t0 turn h
/-- sorted(l, key = f) -/
theorem sk_sorted {T : Hp → Hp → Prop} {G : Hp} {l f : Addr} {fo : Obj} {v1 v2 : Value} {k1 k2 : Int × Bool} {E : Value → Shared → Prop} {Q : Value → Shared → Prop} (I : Inv X pins σ H s) (hl : s.heap.IsList l #[v1, v2]) (ff : PinB X H f) (hf : s.heap.get? f = some fo) (hc : ∀ v, fo.data ≠ .cell v)
    (hT : ∀ G H, T G H → Ext' G H) (t0 : T G H)
    (turn : ∀ v k, (v, k) ∈ [(v1, k1), (v2, k2)] → ∀ pl G1 H1 s1, Inv X (pins ++ pl) σ H1 s1 → T G1 H1 → Ext' G G1 → (f, fo) ∈ pl → wpAny (model X.prog X.w) A.in1.in1 (call (.ref f) [v]) (fun r s2 => ∃ G2 H2, Inv X (pins ++ pl) σ H2 s2 ∧ T G2 H2 ∧ Ext' G1 G2 ∧ KeyV X G2 r k) (fun _ _ => False) s1)
    (h : ∀ d G' H' s' n, Inv X pins σ H' s' → T G' H' → Ext' G G' → s'.heap.get? d = some (seqObj "list" (if lexB (k2.1, b2i k2.2) (k1.1, b2i k1.2) then #[v2, v1] else #[v1, v2]) n) → FpOk X pins H' d → Q (.ref d) s') :
    wpAny (model X.prog X.w) A (call (.builtin "sorted") [.ref l] [(Str.ofString "key", .ref f)]) Q E s := by
  refine call_function_entry_kw kind_sorted plain_sorted entry_sorted (ksk_s1 _ _) ?_
  unfold Builtin.«sorted»
  refine wpAny_bind (m := checkCount "sorted" 1 1 _) (wpAny_pure ?_)
  refine wpAny_bind (collect_list (vs := [v1, v2]) hl ?_ (by rw [sizeLine_eq]; simp))
  refine wpAny_bind (wpAny_newList ?_ (by rw [sizeLine_eq]; simp))
  have hsz : ((s.heap.push (seqObj "list" #[] 0)).update s.heap.objs.size (Obj.mapSeq (· ++ #[v1, v2]))).objs.size = s.heap.objs.size + 1 := by
    rw [Heap.size_update, size_push']
  have hoL : (((s.heap.push (seqObj "list" #[] 0)).update s.heap.objs.size (Obj.mapSeq (· ++ #[v1, v2]))).push (seqObj "list" #[v1, v2] 0)).get? (s.heap.objs.size + 1) = some (seqObj "list" #[v1, v2] 0) := by
    rw [← hsz]; exact Heap.get?_push_size _ rfl
  have keep : ∀ b o, s.heap.get? b = some o → (((s.heap.push (seqObj "list" #[] 0)).update s.heap.objs.size (Obj.mapSeq (· ++ #[v1, v2]))).push (seqObj "list" #[v1, v2] 0)).get? b = some o := fun b o q => by
    have hlt : b < s.heap.objs.size := Heap.lt_size q
    rw [Heap.get?_push_ne _ _ _ (by rw [hsz]; exact Nat.ne_of_lt (Nat.lt_succ_of_lt hlt)), Heap.get?_update_ne _ _ _ _ (Nat.ne_of_lt hlt), Heap.get?_push_ne _ _ _ (Nat.ne_of_lt hlt)]
    exact q
  show wpAny _ _ _ _ _ { s with heap := ((s.heap.push (seqObj "list" #[] 0)).update s.heap.objs.size (Obj.mapSeq (· ++ #[v1, v2]))).push (seqObj "list" #[v1, v2] 0) }
  rw [hsz]
  refine wpAny_bind (wpAny_holding (wpAny_call_entry_kw slot_list_sort ⟨_, hoL, rfl⟩ entry_list_sort ?body (ksk_l1 _ _)))
  case body =>
    show wpAny (model X.prog X.w) A.in1.in1 (Builtin.«list.sort» ⟨[.ref (s.heap.objs.size + 1)], [(Str.ofString "key", .ref f)]⟩) _ _ _
    rw [ksk_t1]
    have I1 := Inv.kept (t' := s.toks) I keep
    refine sk_tree I1 (I.fpOk (Nat.le_succ _) (I.hok.fresh (Nat.le_succ _))) ff (Nat.ne_of_lt (Nat.lt_succ_of_lt (Heap.lt_size hf))) hoL (keep _ _ hf) hc hT t0 turn fun G' H' s' n I2 t2 x2 hd fd => ⟨_, rfl, ?_⟩
    exact wpAny_pure ⟨_, rfl, h _ G' H' s' n I2 t2 x2 hd fd⟩
end
end SKy

namespace SKy
open PySem PySem.Spec PyProof.Rows L2 SrtO
theorem clo_nil {cells : List (Str × Addr)} : ∀ {l : List (Str × NameKind)} {acc : List (Str × Addr)}, (∀ y ∈ l, y.2 ≠ .free) → cloFrom cells l acc = acc
  | [], _, _ => rfl
  | (n, k) :: r, acc, h => by
    unfold cloFrom
    have hk : (k == NameKind.free) = false := by
      have := h (n, k) List.mem_cons_self
      cases k <;> first | rfl | exact absurd rfl this
    rw [hk, if_neg (by simp)]
    exact clo_nil fun y hy => h y (List.mem_cons_of_mem _ hy)
section
variable {X : Cx} {pins : List (Addr × Obj)} {σ : L2.St} {H : Hp} {s : Shared}
/-- a lambda of one name, called -/
theorem lam1 {A : Around} {k : Nat} {f c' : Addr} {q y : Str} {params : Arguments} {body : Expr} {scope : Scope} {pm ctv v : Value} {x : V} {te : TE} {Q : VK} {E' : Value → Shared → Prop} (hr : Room (k + 1) A) (hfm : A.frames = X.A.frames) (I : Inv X pins σ H s)
    (hf : s.heap.get? f = some (PySem.W.kla_obj "<lambda>" q params body scope [] pm c' ctv)) (hco : H c' = some (LamX.CodeO c' q)) (S : FnScope [y] [y] scope)
    (hbind : bindArgs (PySem.W.kla_fn "<lambda>" q params body scope [] pm (.ref c') ctv) ⟨[v], []⟩ = pure [(y, v)]) (r : RelV x v)
    (hbody : PE (cxOf (L2.CX X.prog X.w) X.prog X.w X.K X.mg X.base [y] q scope f (.ref c') A X.stack s H OB.noE) body te) (ht : te (L2.start [y] [x]) H Q) :
    wpAny (model X.prog X.w) A (call (.ref f) [v]) (EP X pins σ Q) E' s := by
  have e1 := I.env0
  have e0 : Env0 X.prog X.w X.K X.mg X.base A X.stack s H := ⟨hfm.trans e1.frames, e1.mod, e1.bs, e1.bsz, e1.funs, e1.frf, e1.hok, e1.bare⟩
  have lim : s.heap.NoLimit := I.nolimit
  obtain ⟨⟨oc, vs, t, hoc, hdc, hvc⟩, _, _⟩ := I.hok c' _ hco
  have hkind : ∀ z ∈ [(y, v)], scope.names.lookup z.1 = some .local ∨ (scope.names.lookup z.1 = some .cell ∧ ((cellsFrom (s.heap.objs.size + 1) scope.names []).lookup z.1).isSome = true) := fun z hz => by
    rw [List.mem_singleton.mp hz]
    rcases S.par y List.mem_cons_self with q | q
    · exact .inl q
    · exact .inr ⟨q, PySem.W.cellsFrom_some _ _ _ (.inl q)⟩
  have rc : codeAny (model X.prog X.w) A (.call (.ref f) ⟨[v], []⟩) (CR (L2.CX X.prog X.w) X.stack X.prog X.w H s Q OB.noE) s := by
    refine PySem.W.kla_callFunE hr.depth hf rfl S.co S.gen rfl ⟨c', oc, vs, t, rfl, hoc, hdc, hvc⟩ ?_
    rw [hbind]
    refine wpAny_pure (wpAny_newFunctionEnv_cells S.kind hkind fun env he s1 x1 => ?_)
    subst he
    refine ⟨lim.keeps x1.toInCall.keep, ?_⟩
    have J : Inv (cxOf (L2.CX X.prog X.w) X.prog X.w X.K X.mg X.base [y] q scope f (.ref c') A X.stack s H OB.noE) [] (L2.start [y] [x]) H s1 := inv_start (ps := [y]) (us := [v]) S hr.hd e0 rfl (.cons r .nil) x1
    refine PySem.W.kla_codeExpr (wpAny_mono (hbody.run [] _ _ H Q J ht) (fun u s' hq => ?_) fun e s' hq => hq)
    obtain ⟨w', H', J', rv, q⟩ := hq
    exact ⟨w', H', J'.os, J'.bare, J'.base, J'.hok, rv, q⟩
  refine wpAny_call (codeAny_mono rc fun r s' hq => ?_)
  cases r with
  | error e =>
    obtain ⟨_, _, _, _, _, _, _, _, _, _, _, _, h⟩ := hq
    exact h.elim
  | ok fl =>
    cases fl with
    | ret u => exact I.after hq
    | next => exact False.elim hq
    | brk => exact False.elim hq
    | cont => exact False.elim hq
end
end SKy
namespace DL
open PySem PySem.Spec PyProof.Rows L2 SrtO
/-- the key of an item -/
def keyD (k : Int × Bool) : D := .tup [.int k.1, .bl k.2]
/-- does the second go ahead -/
def ahead (k2 k1 : Int × Bool) : Bool := lexB (k2.1, b2i k2.2) (k1.1, b2i k1.2)
/-- sorted(e, key = lambda y: b), of two -/
def dSortK (fe fb : DTE) : DTE := fun δ n q e => fe δ n (fun x n1 => ∃ d1 d2 k1 k2, x = .lst [d1, d2] ∧ (∀ q' : D → NS → Prop, q' (keyD k1) n1 → fb [some d1] n1 q' noX) ∧ (∀ q' : D → NS → Prop, q' (keyD k2) n1 → fb [some d2] n1 q' noX) ∧ q (.lst (if ahead k2 k1 then [d2, d1] else [d1, d2])) n1) e
section
variable {X : Cx} {M : LK} {W : WX}
theorem boot_sorted : bootBuiltins "sorted" = some (.builtin "sorted") := by decide +kernel
theorem dp_sortK {e : Expr} {fe fb : DTE} {p pos lpos kpos : Pos} {params : Arguments} {body : Expr} {scope : Scope} {y : Str} {c P : Addr} {k : Nat} (hK : X.K = M.L.K) (ha : PE X e (liftE M W fe)) (hr : Room (k + 3) X.A)
    (TB : LamX.TabB X.base X.mg c P) (hcode : X.env.code = .ref c) (hmT : (P, X.env.qual ++ "<lambda>") ∈ M.L.T) (hu : ∀ p ∈ M.L.T, p.1 = P → p.2 = X.env.qual ++ "<lambda>") (hdef : defaultsOf params X.env = ([], [])) (S : FnScope [y] [y] scope)
    (hbind : ∀ (q : Str) (cl : List (Str × Addr)) (pm cv ctv v : Value), bindArgs (PySem.W.kla_fn "<lambda>" q params body scope cl pm cv ctv) ⟨[v], []⟩ = pure [(y, v)])
    (hbody : ∀ (A : Around) (outer : List Env) (s : Shared) (H : Hp) (f c' : Addr), PE (cxOf (L2.CX X.prog X.w) X.prog X.w X.K X.mg X.base [y] (X.env.qual ++ "<lambda>") scope f (.ref c') A outer s H OB.noE) body (liftE M W0 fb))
    (hst : frs X.stack = X.env.locals :: X.fs) (hg : Gl X "sorted") (hm : X.mg "sorted" = none) (he : starEach [e] X.env = [(false, eval e X.env)] := by exact starEach_cons rfl) :
    PE X (.Call (.Name "sorted" p) [e] [⟨some "key", .Lambda params body scope lpos, kpos⟩] pos) (liftE M W (dSortK fe fb)) := by
  refine ⟨fun pins s σ H Q I h => ?_⟩
  obtain ⟨pn, G, n, δ, q, ex, R, h2, hQ, hX⟩ := h
  refine wpAny_Call_Name_kw (ld_blt I hg hm boot_sorted ?_)
  have ha2 : PA X [e] (tCons (liftE M W fe) tNil) := pa_cons ha pa_nil he
  refine PyProof.Rows.callWith_kw (thn (ha2.run pos pins s σ H (fun vs H1 => ∃ G1 n1 v d1 d2 k1 k2, Rep M pn G1 n1 σ δ H1 ∧ Adv pn G H G1 H1 ∧ vs = [v] ∧ Is M G1 v (.lst [d1, d2]) ∧ (∀ q' : D → NS → Prop, q' (keyD k1) n1 → fb [some d1] n1 q' noX) ∧ (∀ q' : D → NS → Prop, q' (keyD k2) n1 → fb [some d2] n1 q' noX) ∧ q (.lst (if ahead k2 k1 then [d2, d1] else [d1, d2])) n1) I ?_) fun us s1 ⟨vs, H1, I1, r1, q1⟩ => ?_) (by rw [he]; rfl) (by rw [he]; rfl) rfl rfl
  · refine ⟨pn, G, n, δ, _, ex, R, h2, fun G1 v d n1 H1 A1 R1 i1 h1 => ?_, hX⟩
    obtain ⟨d1, d2, k1, k2, rfl, b1, b2, h1⟩ := h1
    exact ⟨G1, n1, v, d1, d2, k1, k2, R1, A1, rfl, i1, b1, b2, h1⟩
  obtain ⟨G1, n1, v, d1, d2, k1, k2, R1, A1, rfl, i1, b1, b2, h1⟩ := q1
  simp only [Is] at i1
  obtain ⟨l, ws, rfl, gl, iw⟩ := i1
  obtain ⟨u, rfl, ru⟩ : ∃ u, us = [u] ∧ RelV (V.ref l) u := by
    cases r1 with
    | cons ru r1 =>
      cases r1
      exact ⟨_, rfl, ru⟩
  obtain rfl : u = Value.ref l := ru
  obtain ⟨w1, w2, rfl, iw1, iw2⟩ : ∃ w1 w2, ws = [w1, w2] ∧ Is M G1 w1 d1 ∧ Is M G1 w2 d2 := by
    match ws, iw with
    | [w1, w2], iw =>
      simp only [DL.IsL] at iw
      exact ⟨w1, w2, rfl, iw.1, iw.2.1⟩
    | [], iw => simp only [DL.IsL] at iw
    | [_], iw => simp only [DL.IsL, and_false] at iw
    | _ :: _ :: _ :: _, iw => simp only [DL.IsL, and_false] at iw
  show wpAny _ _ (evalAll [do let v ← eval (.Lambda params body scope lpos) X.env; standAt pos; pure v]) _ _ s1
  refine wpAny_evalAll_cons (wpAny_bind (LamX.lam_make2 I1 TB hcode hmT hu R1.tab hdef (fun z hz zf => absurd zf (S.nofree z hz)) fun f c' pm ctv H2 s2 I2 eN T2 hf hfn hfr hco => wpAny_bind (wpAny_standAt (wpAny_pure (wpAny_evalAll_nil ?_)))))
  rw [SKy.clo_nil S.nofree] at hf
  obtain ⟨R2, A2⟩ := R1.grow eN T2
  obtain ⟨G3, R3, A3, hco3⟩ := R2.know hco
  have A23 := A2.trans A3
  obtain ⟨_, its, nl, rI, hl⟩ := I2.hok l _ (R3.ex _ _ (A23.ge _ _ gl))
  obtain ⟨v1, v2, rfl, q1, q2⟩ : ∃ v1 v2, its = [v1, v2] ∧ RelV w1 v1 ∧ RelV w2 v2 := by
    cases rI with
    | cons q1 rI =>
      cases rI with
      | cons q2 rI =>
        cases rI
        exact ⟨_, _, rfl, q1, q2⟩
  have pb : SKy.PinB X H2 f := ⟨hfn, fun z => hfr (by rw [hst, z]; exact List.mem_cons_self), fun z => hfr (by rw [hst]; exact List.mem_cons_of_mem _ z)⟩
  have hr3 : Room (k + 1) X.A.in1.in1 := (hr.in1 : Room (k + 2) X.A.in1).in1
  refine SKy.sk_sorted (T := fun G H => Rep M pn G n1 σ δ H) (G := G3) (k1 := k1) (k2 := k2) I2 ⟨_, hl, rfl, _, rfl⟩ pb hf (fun v z => by cases z) (fun G H r => r.ex) R3 (fun v k0 hm pl G4 H4 s4 I4 R4 x4 hp => ?_) fun d G4 H4 s4 n4 I4 R4 x4 hd fd => ?_
  · obtain ⟨w, dd, rw_, iw, bd⟩ : ∃ w dd, RelV w v ∧ Is M G1 w dd ∧ ∀ q' : D → NS → Prop, q' (keyD k0) n1 → fb [some dd] n1 q' noX := by
      simp only [List.mem_cons, List.not_mem_nil, or_false, Prod.mk.injEq] at hm
      rcases hm with ⟨rfl, rfl⟩ | ⟨rfl, rfl⟩
      · exact ⟨w1, d1, q1, iw1, b1⟩
      · exact ⟨w2, d2, q2, iw2, b2⟩
    have hf4 := (SKy.pinB_of I4 hp).2
    have AX : Adv pn G1 H1 G4 H4 := ⟨A23.ge.trans x4⟩
    refine wpAny_mono (SKy.lam1 (x := w) (E' := fun _ _ => False) hr3 rfl I4 hf4 (R4.ex _ _ (x4 _ _ hco3)) S (hbind _ _ _ _ _ _) rw_ (hbody _ _ _ _ _ _) (Q := fun r H5 => ∃ G5, Rep M pn G5 n1 σ δ H5 ∧ SKy.Ext' G4 G5 ∧ ∃ t, r = .ref t ∧ SqT X.K G5 t [.int k0.1, .bl k0.2]) ?_) (fun r s5 hq => ?_) fun _ _ z => z
    · have iL : DL.IsL M G4 [w] [dd] := by
        simp only [DL.IsL]
        exact ⟨Is.up AX.ge _ _ iw, trivial⟩
      have RS := (R4.bare).start (N := [y]) iL
      refine ⟨pn, G4, n1, _, fun d n' => d = keyD k0 ∧ n' = n1, noX, RS, bd _ ⟨rfl, rfl⟩, fun G5 v d n' H5 A5 R5 i5 h5 => ?_, XEnd.no noX_no⟩
      obtain ⟨rfl, rfl⟩ := h5
      unfold keyD at i5
      simp only [Is] at i5
      obtain ⟨t, vs, rfl, gt, iv⟩ := i5
      obtain rfl : vs = [.int k0.1, .bl k0.2] := by
        match vs, iv with
        | [a, b], iv =>
          simp only [DL.IsL, Is] at iv
          rw [iv.1, iv.2.1]
        | [], iv => simp only [DL.IsL] at iv
        | [_], iv => simp only [DL.IsL, and_false] at iv
        | _ :: _ :: _ :: _, iv => simp only [DL.IsL, and_false] at iv
      exact ⟨G5, (R4.back R5.bare A5), A5.ge, t, rfl, by rw [hK]; exact gt⟩
    · obtain ⟨r', H5, I5, rr, G5, R5, x5, t, rfl, ht⟩ := hq
      exact ⟨G5, H5, I5, R5, x5, t, rr, ht⟩
  · have e2 : (if lexB (k2.1, b2i k2.2) (k1.1, b2i k1.2) = true then #[v2, v1] else #[v1, v2]).toList = (if ahead k2 k1 then [v2, v1] else [v1, v2]) := by
      unfold ahead
      split <;> rfl
    have I5 := Inv.take (t' := s4.toks) (o := .lst (if ahead k2 k1 then [w2, w1] else [w1, w2])) I4 (fun b ob _ q => q) fd (by
      refine ⟨by split <;> (rw [sizeLine_eq]; simp), (if ahead k2 k1 then [v2, v1] else [v1, v2]), n4, ?_, ?_⟩
      · split
        · exact .cons q2 (.cons q1 .nil)
        · exact .cons q1 (.cons q2 .nil)
      · rw [hd, ← e2])
    obtain ⟨R5, A5⟩ := R4.lay (p := d) (o := .lst (if ahead k2 k1 then [w2, w1] else [w1, w2])) fd.1 notTbl_lst
    have AX : Adv pn G1 H1 (upd G4 d (.lst (if ahead k2 k1 then [w2, w1] else [w1, w2]))) (upd H4 d (.lst (if ahead k2 k1 then [w2, w1] else [w1, w2]))) := ⟨(A23.ge.trans x4).trans A5.ge⟩
    refine ⟨.ref d, _, I5, rfl, hQ _ _ _ n1 _ (R.tr A1 AX) R5 ?_ h1⟩
    simp only [Is]
    refine ⟨d, _, rfl, upd_same, ?_⟩
    have j1 := Is.up AX.ge _ _ iw1
    have j2 := Is.up AX.ge _ _ iw2
    revert j1 j2
    generalize upd G4 d _ = GG
    intro j1 j2
    split
    · simp only [DL.IsL]
      exact ⟨j2, j1, trivial⟩
    · simp only [DL.IsL]
      exact ⟨j1, j2, trivial⟩
end
end DL

set_option Elab.async false
set_option linter.all false
set_option maxRecDepth 100000
set_option maxHeartbeats 4000000
set_option autoImplicit false
/-! <= of pairs (int, truth); in on lists of data; tuple(l). -/
namespace DL
open PySem PySem.Spec PyProof.Rows L2
section
variable {X : Cx} {M : LK} {W : WX}
def rLePB (K : PySem.W.Frag) : R2 := fun x y H Q => ∃ (a b : Addr) (i j : Int) (p q : Bool), x = .ref a ∧ y = .ref b ∧ SqT K H a [.int i, .bl p] ∧ SqT K H b [.int j, .bl q] ∧ Q (.bl (!ahead (j, q) (i, p))) H
theorem le_lex {i j : Int} {p q : Bool} : Ob.lexAt (fun k => if k = 0 then decide (i = j) else p == q) (fun k => if k = 0 then decide (i ≤ j) else decide (b2i p ≤ b2i q)) (decide (2 ≤ 2)) 0 2 = !ahead (j, q) (i, p) := by
  rw [Ob.lexAt_succ, Ob.lexAt_succ, Ob.lexAt_zero]
  unfold ahead SrtO.lexB
  simp only [Nat.zero_add, if_true, if_neg (by decide : ¬ (1 : Nat) = 0)]
  by_cases e : i = j
  · subst e
    cases p <;> cases q <;> simp [b2i]
  · rw [if_neg (by simp [e]), if_neg (fun z => e z.symm)]
    by_cases h : i ≤ j
    · rw [decide_eq_true h, decide_eq_false (by omega)]
      rfl
    · rw [decide_eq_false h, decide_eq_true (by omega)]
      rfl
theorem op_lePB (hK : X.K = M.L.K) (hu : X.A.units < cLine) : OpR X (compareOp .LtE) (rLePB M.L.K) := by
  rw [← hK]
  intro pins s σ H x y v u Q I rx ry h
  obtain ⟨a, b, i, j, p, q, rfl, rfl, ha, hb, h⟩ := h
  cases rx
  cases ry
  obtain ⟨its, r1, p1, _⟩ := I.tuple ha
  obtain ⟨its2, r2, p2, _⟩ := I.tuple hb
  obtain ⟨t, rfl⟩ : ∃ t, its = [.int i t, .bool p] := by
    cases r1 with
    | cons z1 r1 =>
      cases r1 with
      | cons z2 r1 =>
        cases r1
        obtain ⟨t, rfl⟩ := z1
        cases (show _ = Value.bool p from z2)
        exact ⟨t, rfl⟩
  obtain ⟨t', rfl⟩ : ∃ t, its2 = [.int j t, .bool q] := by
    cases r2 with
    | cons z1 r1 =>
      cases r1 with
      | cons z2 r1 =>
        cases r1
        obtain ⟨t, rfl⟩ := z1
        cases (show _ = Value.bool q from z2)
        exact ⟨t, rfl⟩
  have R := Ob.RcOp.tuples_le (A := X.A) (s := s) (e := fun k => if k = 0 then decide (i = j) else p == q) (r := fun k => if k = 0 then decide (i ≤ j) else decide (b2i p ≤ b2i q)) p1 p2 hu (fun k h1 h2 => by
    match k, h1, h2 with
    | 0, _, _ =>
      have z : (i == j) = decide (i = j) := by
        by_cases q : i = j
        · rw [decide_eq_true q]; exact beq_iff_eq.mpr q
        · rw [decide_eq_false q]; exact beq_eq_false_iff_ne.mpr q
      simp only [if_true]
      rw [← z]
      exact SeqAt.EqAt.int_int _ _ _ _
    | 1, _, _ => exact SeqAt.EqAt.bool_bool _ _
    | k + 2, h1, _ => exact absurd (show k + 2 < 2 from h1) (by omega)) (fun k h1 h2 _ => by
    match k, h1, h2 with
    | 0, _, _ => exact Ob.RcOp.le_int _ _ _ _
    | 1, _, _ => exact fun _ _ _ _ h => PyProof.Rows.le_bool h
    | k + 2, h1, _ => exact absurd (show k + 2 < 2 from h1) (by omega))
  have R' : wpAny (model X.prog X.w) X.A (richCompare .LtE (.ref a) (.ref b)) (EP X pins σ Q) X.xe s := by
    refine R X.prog X.w X.xe (EP X pins σ Q) ?_
    have e : Ob.lexAt (fun k => if k = 0 then decide (i = j) else p == q) (fun k => if k = 0 then decide (i ≤ j) else decide (b2i p ≤ b2i q)) (decide (([.int i t, .bool p] : List Value).toArray.size ≤ ([.int j t', .bool q] : List Value).toArray.size)) 0 (min ([.int i t, .bool p] : List Value).toArray.size ([.int j t', .bool q] : List Value).toArray.size) = !ahead (j, q) (i, p) := le_lex
    rw [e]
    exact ⟨.bl _, H, I, rfl, h⟩
  exact R'
def gLeP : GR2 := fun x y n q => match x, y with
  | .tup [.int i, .bl a], .tup [.int j, .bl b] => q (.bl (!ahead (j, b) (i, a))) n
  | _, _ => False
theorem isl_pb {G : Hp} {vs : List V} {i : Int} {b : Bool} (h : DL.IsL M G vs [.int i, .bl b]) : vs = [.int i, .bl b] := by
  match vs, h with
  | [a, b], h =>
    simp only [DL.IsL, Is] at h
    rw [h.1, h.2.1]
  | [], h => simp only [DL.IsL] at h
  | [_], h => simp only [DL.IsL, and_false] at h
  | _ :: _ :: _ :: _, h => simp only [DL.IsL, and_false] at h
theorem dr_leP : DR2 M (rLePB M.L.K) gLeP := by
  intro pn G n σ δ H v u x y q Q R ix iy h k
  unfold gLeP at h
  split at h
  · rename_i i a j b
    simp only [Is] at ix iy
    obtain ⟨p, vs, rfl, g1, i1⟩ := ix
    obtain ⟨p', vs', rfl, g2, i2⟩ := iy
    obtain rfl := isl_pb i1
    obtain rfl := isl_pb i2
    exact ⟨p, p', i, j, a, b, rfl, rfl, R.ex.seqT g1, R.ex.seqT g2, k G _ (.bl _) n H Adv.refl R (by simp only [Is]) h⟩
  · exact h.elim
/-- in, on a list of data -/
def inDD (x y : D) (k : Bool → Prop) : Prop := match y with
  | .lst ys => ∃ d ds, py x = some d ∧ pyL ys = some ds ∧ SeqAt.shaped d = true ∧ SeqAt.shaped (.list ds) = true ∧ k (ds.any fun z => PyData.eqv z d)
  | _ => False
def gInD : GR2 := fun x y n q => inDD x y fun b => q (.bl b) n
def gNotInD : GR2 := fun x y n q => inDD x y fun b => q (.bl (!b)) n
theorem dr_inDD : DR2 M (rInD M.L.K) gInD := by
  intro pn G n σ δ H v u x y q Q R ix iy h k
  unfold gInD inDD at h
  split at h
  · rename_i ys
    obtain ⟨d, ds, e1, e2, s1, s2, h⟩ := h
    exact ⟨d, ds, py_dp R.ex x v d ix e1, py_dp R.ex (.lst ys) u (.list ds) iy (by simp only [py, e2, Option.map_some]), s1, s2, k G _ (.bl _) n H Adv.refl R (by simp only [Is]) h⟩
  · exact h.elim
theorem dr_notInDD : DR2 M (rNotInD M.L.K) gNotInD := by
  intro pn G n σ δ H v u x y q Q R ix iy h k
  unfold gNotInD inDD at h
  split at h
  · rename_i ys
    obtain ⟨d, ds, e1, e2, s1, s2, h⟩ := h
    exact ⟨d, ds, py_dp R.ex x v d ix e1, py_dp R.ex (.lst ys) u (.list ds) iy (by simp only [py, e2, Option.map_some]), s1, s2, k G _ (.bl _) n H Adv.refl R (by simp only [Is]) h⟩
  · exact h.elim
theorem op_inDD (hK : X.K = M.L.K) (hu : X.A.units + 65 < cLine) : OpR X (compareOp .In) (rInD M.L.K) := hK ▸ op_inD hu
theorem op_notInDD (hK : X.K = M.L.K) (hu : X.A.units + 65 < cLine) : OpR X (compareOp .NotIn) (rNotInD M.L.K) := hK ▸ op_notInD hu
end
end DL

set_option Elab.async false
set_option linter.all false
set_option maxRecDepth 100000
set_option maxHeartbeats 4000000
set_option autoImplicit false
/-! tuple(l), l[::-1], ranges with a step, ranges as values. -/
namespace DL
open PySem PySem.Spec PyProof.Rows L2
section
variable {X : Cx} {M : LK} {W : WX}
def gTuple : GC := fun xs n q => match xs with
  | [.lst ys] => q (.tup ys) n
  | [.tup ys] => q (.tup ys) n
  | _ => False
theorem drc_tuple (hK : X.K = M.L.K) : DRC M (fun xs H Q => ∃ p ys, xs = [.ref p] ∧ ((SqL X.K H p ys ∧ ∀ l, H l = none → Q (.ref l) (upd H l (.tup ys))) ∨ (SqT X.K H p ys ∧ Q (.ref p) H))) gTuple := by
  intro pn G n σ δ H vs xs q Q R iv h k
  unfold gTuple at h
  split at h
  · rename_i ys
    obtain ⟨v, rfl, iw⟩ := iv.one
    simp only [Is] at iw
    obtain ⟨p, us, rfl, h1, h2⟩ := iw
    refine ⟨p, us, rfl, .inl ⟨SqL.of (R.ex _ _ h1), fun l hl => ?_⟩⟩
    obtain ⟨R2, A2⟩ := R.lay (o := .tup us) hl notTbl_tup
    exact k _ _ _ n _ A2 R2 (by simp only [Is]; exact ⟨l, us, rfl, SqT.of upd_same, IsL.up A2.ge _ _ h2⟩) h
  · rename_i ys
    obtain ⟨v, rfl, iw⟩ := iv.one
    have iw' := iw
    simp only [Is] at iw
    obtain ⟨p, us, rfl, h1, h2⟩ := iw
    exact ⟨p, us, rfl, .inr ⟨by rw [hK]; exact R.ex.seqT h1, k G _ _ n H Adv.refl R iw' h⟩⟩
  · exact h.elim
theorem IsL.reverse {G : Hp} : ∀ {ds : List D} {vs : List V}, DL.IsL M G vs ds → DL.IsL M G vs.reverse ds.reverse
  | [], [], h => h
  | [], _ :: _, h => by simp only [DL.IsL] at h
  | _ :: _, [], h => by simp only [DL.IsL] at h
  | d :: ds, v :: vs, h => by
    simp only [DL.IsL] at h
    rw [List.reverse_cons, List.reverse_cons]
    exact DL.IsL.append (IsL.reverse h.2) (by simp only [DL.IsL]; exact ⟨h.1, trivial⟩)
/-- l[::-1] -/
def dRevL (fe : DTE) : DTE := fun δ n q e => fe δ n (fun x n1 => match x with | .lst ys => q (.lst ys.reverse) n1 | _ => False) e
theorem dp_revL {e : Expr} {fe : DTE} {k : Nat} {p1 p2 p3 pos : Pos} (hK : X.K = M.L.K) (he : PE X e (liftE M W fe)) : PE X (.Subscript e (.Slice none none (some (.UnaryOp .USub (.Constant (.int 1) k p1) p2)) p3) pos) (liftE M W (dRevL fe)) :=
  PEw (pe_revL he) fun σ H Q ⟨pn, G, n, δ, q, e, R, hf, hQ, hX⟩ => by
    refine ⟨pn, G, n, δ, _, e, R, hf, fun G1 v d n1 H1 A1 R1 i1 h1 => ?_, hX⟩
    cases d with
    | lst ys =>
      simp only [Is] at i1
      obtain ⟨p, us, rfl, h2, h3⟩ := i1
      refine ⟨p, us, rfl, SqL.of (R1.ex _ _ h2), fun l hl => ?_⟩
      obtain ⟨R2, A2⟩ := R1.lay (o := .lst us.reverse) hl notTbl_lst
      exact hQ _ _ (.lst ys.reverse) n1 _ (R.tr A1 A2) R2 (by simp only [Is]; exact ⟨l, _, rfl, upd_same, IsL.reverse (IsL.up A2.ge _ _ h3)⟩) h1
    | _ => exact h1.elim
/-- lo, lo + c, .. -/
def rangeC (lo c : Int) (n : Nat) : List D := (List.range n).map fun i => .int (lo + (i : Nat) * c)
theorem yields_rangeC {pn : Addr} {G0 H0 : Hp} {lo c : Int} {m : Nat} : Yields M pn G0 H0 (Itc lo c m) (rangeC lo c m) where
  go := fun i G H n σ δ A R d hd => by
    have hlt : i < m := by
      have := (List.getElem?_eq_some_iff.mp hd).1
      simpa [rangeC] using this
    have e : d = .int (lo + (i : Nat) * c) := by
      unfold rangeC at hd
      rw [List.getElem?_map, List.getElem?_range hlt] at hd
      exact (Option.some.inj hd).symm
    refine ⟨hlt, fun x H' y => ?_⟩
    obtain ⟨rfl, rfl⟩ := y
    exact ⟨G, Adv.refl, R, by rw [e]; simp only [Is]⟩
  stop := fun G H n σ δ A R => by show m ≤ (rangeC lo c m).length; simp [rangeC]
def diRange3 (f : DTA) : DTI := fun δ n q e => f δ n (fun xs n1 => match xs with | [.int i, .int j, .int c] => ∃ m, RgC i j c m ∧ q (rangeC i c m) n1 | _ => False) e
theorem di_range3 {tg : Expr} {e : Expr} {f : DTA} (h : PI X tg e (iRng3 (liftA M W f))) : PI X tg e (liftI M W (diRange3 f)) :=
  PIw h fun σ H R' ⟨pn, G, n, δ, q, e, R, hf, hQ, hX⟩ => by
    refine ⟨pn, G, n, δ, _, e, R, hf, fun G1 vs ds n1 H1 A1 R1 i1 h1 => ?_, hX⟩
    match ds, h1 with
    | [.int i, .int j, .int c], h1 =>
      obtain rfl := IsL.ints (is := [i, j, c]) i1
      obtain ⟨m, r, h1⟩ := h1
      exact ⟨i, j, c, m, rfl, r, hQ G1 _ n1 H1 _ A1 R1 yields_rangeC h1⟩
/-- range(i, j) as a value -/
def dRngV (f : DTA) : DTE := fun δ n q e => f δ n (fun xs n1 => match xs with | [.int i, .int j] => ∀ p, n1.mu p = none → q (.ref p) ⟨n1.at_, mup n1.mu p (some (.rng i j))⟩ | _ => False) e
theorem dp_rngV {e : Expr} {f : DTA} (h : PE X e (tCB (fun vs H Q => ∃ i j, vs = [V.int i, V.int j] ∧ ∀ p, H p = none → Q (.ref p) (upd H p (.rng i j))) (liftA M W f))) : PE X e (liftE M W (dRngV f)) :=
  PEw h fun σ H Q ⟨pn, G, n, δ, q, e, R, hf, hQ, hX⟩ => by
    refine ⟨pn, G, n, δ, _, e, R, hf, fun G1 vs ds n1 H1 A1 R1 i1 h1 => ?_, hX⟩
    match ds, h1 with
    | [.int i, .int j], h1 =>
      obtain rfl := IsL.ints (is := [i, j]) i1
      refine ⟨i, j, rfl, fun p hp => ?_⟩
      obtain ⟨R2, A2⟩ := R1.mak (o := .rng i j) (u := .rng i j) hp (by simp only [MIs]; exact ⟨trivial, trivial⟩)
      exact hQ _ (.ref p) (.ref p) _ _ (R.tr A1 A2) R2 (by simp only [Is]) (h1 p (R1.munone hp))
/-- over a range that stands in a name -/
def diRngN (f : DTE) : DTI := fun δ n q e => f δ n (fun x n1 => ∃ a i j, x = .ref a ∧ n1.mu a = some (.rng i j) ∧ (-(2 ^ 62) ≤ i ∧ i < 2 ^ 62 ∧ -(2 ^ 62) ≤ j ∧ j < 2 ^ 62) ∧ q (rangeD i (j - i).toNat) n1) e
theorem pi_rngN {tg e : Expr} {te : TE} (h : PE X e te) : PI X tg e (fun σ H R => te σ H fun x H1 => ∃ a i j, x = .ref a ∧ H1 a = some (.rng i j) ∧ (-(2 ^ 62) ≤ i ∧ i < 2 ^ 62 ∧ -(2 ^ 62) ≤ j ∧ j < 2 ^ 62) ∧ R (Itr i (j - i).toNat) H1) := by
  refine ⟨fun pins s σ H R I h' => ?_⟩
  refine thn (h.run pins s σ H _ I h') fun v s1 ⟨x, H1, I1, r1, a, lo, hi, e, ha, ⟨h1, h2, h3, h4⟩, q⟩ => ?_
  subst e
  cases r1
  obtain ⟨t, u, w, ho⟩ := I1.hok a _ ha
  refine wpAny_pyIter_range (r := a) ho (small_one h1 h2 h3 h4) ?_
  refine ⟨s1.heap.objs.size, [s1.heap.objs.size], _, _, H1, rfl, I1.kept (t' := s1.toks) fun b o e => Heap.get?_push_of_some _ e, turn_range _ lo (hi - lo).toNat, ?_, fun b hb => ?_, q⟩
  · have e1 : lo + ((0 : Nat) : Int) * 1 = lo := by simp
    have e2 : (((hi - lo).toNat : Nat) : Int) - ((0 : Nat) : Int) = Builtin.Range.rangeSize lo hi 1 := by rw [rangeSize_one]; split <;> omega
    show IsRangeIter _ _ (lo + ((0 : Nat) : Int) * 1) ((((hi - lo).toNat : Nat) : Int) - ((0 : Nat) : Int)) 1
    rw [e1, e2]
    exact Heap.get?_push_size _ rfl
  · have e : b = s1.heap.objs.size := by simpa using hb
    subst e
    exact I1.fpOk (Nat.le_refl _) (I1.hok.fresh (Nat.le_refl _))
theorem di_rngN {tg e : Expr} {f : DTE} (h : PE X e (liftE M W f)) : PI X tg e (liftI M W (diRngN f)) :=
  PIw (pi_rngN h) fun σ H R' ⟨pn, G, n, δ, q, e, R, hf, hQ, hX⟩ => by
    refine ⟨pn, G, n, δ, _, e, R, hf, fun G1 v d n1 H1 A1 R1 i1 h1 => ?_, hX⟩
    obtain ⟨a, i, j, rfl, hm, hb, h1⟩ := h1
    simp only [Is] at i1
    subst i1
    obtain ⟨o, h2, h3, _⟩ := R1.mu a _ hm
    cases o <;> simp only [MIs] at h3
    obtain ⟨rfl, rfl⟩ := h3
    exact ⟨a, _, _, rfl, h2, hb, hQ G1 _ n1 H1 _ A1 R1 yields_range h1⟩
end
end DL

set_option Elab.async false
set_option linter.all false
set_option maxRecDepth 100000
set_option maxHeartbeats 4000000
set_option autoImplicit false
/-! [e for a in l for b in m] -/
namespace DL
open PySem PySem.Spec PyProof.Rows L2
section
variable {X : Cx} {M : LK} {W : WX}
def dLc2I (g1 : DTG) (te : DTE) (vs1 : List Nat) (δ2 : DEnv) (μ : Addr → Option MO) : List D → List D → Nat → (List D → Nat → Prop) → Prop
  | [], acc, t, k => k acc t
  | e :: es, acc, t, k => acc.length < 100000 ∧ ∀ m, Mle μ m → g1 e (wipeD δ2 vs1) ⟨t, m⟩ fun δ3 n3 => te δ3 n3 (fun y n4 => n4.mu = m ∧ dLc2I g1 te vs1 δ2 μ es (acc ++ [y]) n4.at_ k) noX
def dLc2L (g : DTG) (it1 : DTI) (g1 : DTG) (te : DTE) (vs vs1 : List Nat) (δ : DEnv) (μ : Addr → Option MO) : List D → List D → Nat → (List D → Nat → Prop) → Prop
  | [], acc, t, k => k acc t
  | d :: ds, acc, t, k => ∀ m, Mle μ m → g d (wipeD δ vs) ⟨t, m⟩ fun δ2 n0 => it1 δ2 n0 (fun es n1 => n1.mu = m ∧ dLc2I g1 te vs1 δ2 μ es acc n1.at_ fun acc' t' => dLc2L g it1 g1 te vs vs1 δ μ ds acc' t' k) noX
def dLc2 (it : DTI) (g : DTG) (it1 : DTI) (g1 : DTG) (te : DTE) (vs vs1 : List Nat) : DTE := fun δ n q e => it δ n (fun ds n1 => dLc2L g it1 g1 te vs vs1 δ n1.mu ds [] n1.at_ fun ys t => q (.lst ys) ⟨t, n1.mu⟩) e
theorem liftE_lc2 {it it1 : DTI} {g g1 : DTG} {te : DTE} {vs vs1 : List Nat} (σ : L2.St) (H : Hp) (Q : VK) (h : liftE M W (dLc2 it g it1 g1 te vs vs1) σ H Q) :
    tLc2 (liftI M W it) (liftG M vs g) (liftT M W0 dYes) (liftI M W0 it1) (liftG M vs1 g1) (liftT M W0 dYes) (liftE M W0 te) vs vs1 σ H Q := by
  obtain ⟨pn, G, n, δ, q, e, R, hf, hQ, hX⟩ := h
  refine ⟨pn, G, n, δ, _, e, R, hf, fun G1 ds n1 H1 J A1 R1 Y h1 => ?_, hX⟩
  intro Dd hD
  have md := R1.munone hD
  obtain ⟨RD, AD⟩ := R1.mak (o := .lst []) (u := .lst []) hD (by simp only [MIs, DL.IsL])
  obtain ⟨μ, hμ⟩ : ∃ μ, μ = n1.mu := ⟨_, rfl⟩
  rw [← hμ] at md RD h1
  refine ⟨fun i m H' => m = ds.length - i ∧ i ≤ ds.length ∧ ∃ (G' : Hp) (t : Nat) (acc : List D), Rep M pn G' ⟨t, mup μ Dd (some (.lst acc))⟩ σ δ H' ∧ Adv pn G1 H1 G' H' ∧ dLc2L g it1 g1 te vs vs1 δ μ (ds.drop i) acc t fun ys t => q (.lst ys) ⟨t, μ⟩,
    ⟨ds.length, rfl, Nat.zero_le _, G1, n1.at_, [], RD, AD, h1⟩, ?_⟩
  rintro i m H2 ⟨rfl, hi, G2, t2, acc2, R2, A2, h2⟩
  by_cases hlt : i < ds.length
  · obtain ⟨d, hd⟩ : ∃ d, ds[i]? = some d := ⟨ds[i], by simp [hlt]⟩
    have e1 : ds.drop i = d :: ds.drop (i + 1) := by
      rw [List.drop_eq_getElem_cons hlt]
      congr 1
      rw [List.getElem?_eq_getElem hlt] at hd
      exact Option.some.inj hd
    rw [e1] at h2
    obtain ⟨g2, g3⟩ := Y.go i G2 H2 _ σ δ A2.ge R2 d hd
    refine .inr ⟨g2, fun H' => ∃ (G' : Hp) (t : Nat) (acc : List D), Rep M pn G' ⟨t, mup μ Dd (some (.lst acc))⟩ σ δ H' ∧ Adv pn G1 H1 G' H' ∧ dLc2L g it1 g1 te vs vs1 δ μ (ds.drop (i + 1)) acc t fun ys t => q (.lst ys) ⟨t, μ⟩,
      fun H' h' => ⟨ds.length - (i + 1), by omega, rfl, hlt, h'⟩, fun x H3 hy => ?_⟩
    obtain ⟨G3, A3, R3, i3⟩ := g3 x H3 hy
    have h2 := h2 (mup μ Dd (some (.lst acc2))) (fun a o e => by rw [mup_ne (fun z => by rw [z, md] at e; cases e)]; exact e)
    refine ⟨pn, G3, _, wipeD δ vs, d, _, R3.wipe, i3, h2, fun G4 σ4 δ4 n4 H4 A4 R4 w4 h4 => ?_⟩
    refine ⟨w4.trans (wipe_wipe fun _ h => h), pn, G4, n4, δ4, fun b n' => b = true ∧ n' = n4, noX, R4, ⟨rfl, rfl⟩, fun G5 b n5 H5 A5 R5 h5 => ?_, XEnd.no noX_no⟩
    obtain ⟨rfl, rfl⟩ := h5
    refine iteT ⟨pn, G5, n5, δ4, _, noX, R5, h4, fun G6 es n6 H6 J1 A6 R6 Y1 h6 => ?_, XEnd.no noX_no⟩
    obtain ⟨em, h6⟩ := h6
    have A26 : Adv pn G2 H2 G6 H6 := R2.tr A3 (R3.tr A4 (R4.tr A5 A6))
    obtain ⟨t6, m6⟩ := n6
    simp only at em h6
    subst em
    refine ⟨fun j k H' => k = es.length - j ∧ j ≤ es.length ∧ ∃ (G' : Hp) (t : Nat) (acc : List D), Rep M pn G' ⟨t, mup μ Dd (some (.lst acc))⟩ σ4 δ4 H' ∧ Adv pn G6 H6 G' H' ∧ dLc2I g1 te vs1 δ4 μ (es.drop j) acc t fun acc' t' => dLc2L g it1 g1 te vs vs1 δ μ (ds.drop (i + 1)) acc' t' fun ys t => q (.lst ys) ⟨t, μ⟩,
      ⟨es.length, rfl, Nat.zero_le _, G6, t6, acc2, R6, Adv.refl, h6⟩, ?_⟩
    rintro j k H7 ⟨rfl, hj, G7, t7, acc7, R7, A7, h7⟩
    by_cases hlj : j < es.length
    · obtain ⟨f, hf⟩ : ∃ f, es[j]? = some f := ⟨es[j], by simp [hlj]⟩
      have e2 : es.drop j = f :: es.drop (j + 1) := by
        rw [List.drop_eq_getElem_cons hlj]
        congr 1
        rw [List.getElem?_eq_getElem hlj] at hf
        exact Option.some.inj hf
      rw [e2] at h7
      obtain ⟨hlen, h7⟩ := h7
      obtain ⟨g4, g5⟩ := Y1.go j G7 H7 _ σ4 δ4 A7.ge R7 f hf
      refine .inr ⟨g4, fun H' => ∃ (G' : Hp) (t : Nat) (acc : List D), Rep M pn G' ⟨t, mup μ Dd (some (.lst acc))⟩ σ4 δ4 H' ∧ Adv pn G6 H6 G' H' ∧ dLc2I g1 te vs1 δ4 μ (es.drop (j + 1)) acc t fun acc' t' => dLc2L g it1 g1 te vs vs1 δ μ (ds.drop (i + 1)) acc' t' fun ys t => q (.lst ys) ⟨t, μ⟩,
        fun H' h' => ⟨es.length - (j + 1), by omega, rfl, hlj, h'⟩, fun x8 H8 hy8 => ?_⟩
      obtain ⟨G8, A8, R8, i8⟩ := g5 x8 H8 hy8
      have h7 := h7 (mup μ Dd (some (.lst acc7))) (fun a o e => by rw [mup_ne (fun z => by rw [z, md] at e; cases e)]; exact e)
      refine ⟨pn, G8, _, wipeD δ4 vs1, f, _, R8.wipe, i8, h7, fun G9 σ9 δ9 n9 H9 A9 R9 w9 h9 => ?_⟩
      refine ⟨w9.trans (wipe_wipe fun _ h => h), pn, G9, n9, δ9, fun b n' => b = true ∧ n' = n9, noX, R9, ⟨rfl, rfl⟩, fun Ga b na Ha Aa Ra ha => ?_, XEnd.no noX_no⟩
      obtain ⟨rfl, rfl⟩ := ha
      refine iteT ⟨pn, Ga, na, δ9, _, noX, Ra, h9, fun Gb v y nb Hb Ab Rb ib hb => ?_, XEnd.no noX_no⟩
      obtain ⟨em, hb⟩ := hb
      have A7b : Adv pn G7 H7 Gb Hb := R7.tr A8 (R8.tr A9 (R9.tr Aa Ab))
      have Rb' : Rep M pn Gb nb σ4 δ4 Hb := Rb.env_of (R7.env.up A7b)
      have mb : nb.mu Dd = some (.lst acc7) := by rw [em, mup_same]
      obtain ⟨u, hu, iu, _, _⟩ := Rb'.mu Dd _ mb
      cases u <;> simp only [MIs] at iu
      rename_i us
      refine ⟨us, hu, by rw [iu.length]; exact Nat.lt_of_lt_of_le hlen (le_line (Nat.le_refl _)), Gb, nb.at_, acc7 ++ [y], ?_, (R6.tr A7 A7b).trans ⟨Ext.refl _⟩, hb⟩
      have := Rb'.chg (o := .lst (us ++ [v])) (u := .lst (acc7 ++ [y])) mb (by simp only [MIs]; exact DL.IsL.append iu (by simp only [DL.IsL]; exact ⟨ib, trivial⟩))
      rw [em, mup_mup] at this
      exact this
    · have ej : j = es.length := by omega
      subst ej
      rw [List.drop_length] at h7
      refine .inl ⟨Y1.stop G7 H7 _ σ4 δ4 A7.ge R7, G7, t7, acc7, R7.env_of (R2.env.up (R2.tr A26 A7)), R1.tr A2 (R2.tr A26 A7), h7⟩
  · have ei : i = ds.length := by omega
    subst ei
    rw [List.drop_length] at h2
    refine .inl ⟨Y.stop G2 H2 _ σ δ A2.ge R2, ?_⟩
    have A02 := R.tr A1 A2
    obtain ⟨G3, R3, A3, i3⟩ := frz_is R2 (a := Dd) (o := .lst acc2) mup_same rfl
    have R3' : Rep M pn G3 ⟨t2, μ⟩ σ δ H2 := by
      have := R3
      simp only [mup_mup, mup_back md] at this
      exact this
    exact hQ G3 (.ref Dd) (.lst acc2) ⟨t2, μ⟩ H2 (A02.trans A3) R3' i3 h2
theorem dp_lc2 {ex : Expr} {it it1 : DTI} {g g1 : DTG} {te : DTE} {vs vs1 : List Nat} (h : PE X ex (tLc2 (liftI M W it) (liftG M vs g) (liftT M W0 dYes) (liftI M W0 it1) (liftG M vs1 g1) (liftT M W0 dYes) (liftE M W0 te) vs vs1)) : PE X ex (liftE M W (dLc2 it g it1 g1 te vs vs1)) := PEw h liftE_lc2
end
end DL

set_option Elab.async false
set_option linter.all false
set_option maxRecDepth 100000
set_option maxHeartbeats 4000000
set_option autoImplicit false
/-! != of two pairs (text, instance) whose texts are one text and whose instances an own == takes for equal. -/
namespace TN
open PySem PySem.Spec PyProof.Rows PySem.AutoSeq1
section
variable {prog : Program} {w : World} {A : Around} {R : Result → Shared → Prop}
/-- tuples that are equal item by item: != is False -/
theorem ne_body (l b : Addr) (items items2 : Array Value) (n n2 : Nat) (dd dd2 : Option Addr) (sl sl2 : Array (Option Value)) (hsz : items.size = items2.size) (J : Nat → Shared → Prop)
    (one : ∀ k (h1 : k < items.size) (h2 : k < items2.size) s, J k s → wpAny (model prog w) A.in1 (eqBool items[k] items2[k]) (fun r s' => r = true ∧ J (k + 1) s') (fun e s' => R (.error e) s') s)
    (last : ∀ s, J items.size s → R (.ok (.ret (.bool false))) s) {s : Shared} (ol : s.heap.get? l = some { cls := .type "tuple", dict := dd, data := .seq items n, slots := sl }) (ob : s.heap.get? b = some { cls := .type "tuple", dict := dd2, data := .seq items2 n2, slots := sl2 }) (j0 : J 0 s) :
    wpAny (model prog w) A.in1 (Builtin.«tuple.__ne__» ⟨[.ref l, .ref b], []⟩) (GQ.FinOf prog w A R) (fun e s' => R (.error e) s') s := by
  have sub := AutoSeq1.sub_tuple_tuple
  have zl : (items.toList.zip items2.toList).length = items.size := by simp [hsz]
  have start := j0
  obtain ⟨hp, g, d, tk, os⟩ := s
  wp_walk using wpAny_loadPart' ol, wpAny_loadPart' ob, wpAny_forIn_list _ (fun rest b s' => b.1 = none ∧ ∃ k, rest = (items.toList.zip items2.toList).drop k ∧ k ≤ items.size ∧ J k s') _
  case turn =>
    rintro ⟨y, x⟩ rest b s' ⟨hb', k, hz, hk, hJ⟩
    have hlt : k < (items.toList.zip items2.toList).length := Nat.lt_of_not_le fun h' => by
      rw [List.drop_of_length_le h'] at hz
      cases hz
    have h1 : k < items.size := zl ▸ hlt
    have h2 : k < items2.size := hsz ▸ h1
    rw [List.drop_eq_getElem_cons hlt] at hz
    injection hz with hyx hrest
    obtain rfl : y = items[k] := by simpa using congrArg Prod.fst hyx
    obtain rfl : x = items2[k] := by simpa using congrArg Prod.snd hyx
    refine wpAny_bind (wpAny_mono (one k h1 h2 s' hJ) (fun r s2 q2 => ?_) fun _ _ x => x)
    obtain ⟨rfl, q2⟩ := q2
    wp_walk
    exact ⟨rfl, k + 1, hrest, h1, q2⟩
  case fin =>
    rintro ⟨b1, b2⟩ s' ⟨hb', k, hz, hk, hJ⟩
    simp only at hb'
    subst hb'
    have hge : items.size ≤ k := Nat.le_of_not_lt fun h' => by
      rw [List.drop_eq_getElem_cons (by rw [zl]; exact h')] at hz
      cases hz
    have hk' : k = items.size := by omega
    have hR : R (.ok (.ret (.bool false))) s' := last s' (hk' ▸ hJ)
    wp_walk
    simpa [Builtin.Tuple.tupleCompareSizes, hsz] using hR
  case h => exact ⟨rfl, 0, rfl, Nat.zero_le _, start⟩
end
section
variable {prog : Program} {w : World} {A : Around} {E : Value → Shared → Prop} {s : Shared}
theorem rc_ne {l b : Addr} {items items2 : Array Value} {Q : Value → Shared → Prop} (hsz : items.size = items2.size) (hu : A.units < cLine) (J : Nat → Shared → Prop)
    (hl : s.heap.IsTuple l items) (hb : s.heap.IsTuple b items2)
    (one : ∀ k (h1 : k < items.size) (h2 : k < items2.size) s, J k s → wpAny (model prog w) A.in1 (eqBool items[k] items2[k]) (fun r s' => r = true ∧ J (k + 1) s') E s)
    (last : ∀ s, J items.size s → Q (.bool false) s) (h : J 0 s) : wpAny (model prog w) A (richCompare .NotEq (.ref l) (.ref b)) Q E s := by
  obtain ⟨⟨cls, dd, data, sl⟩, ho, hc, n, hd⟩ := id hl
  obtain ⟨⟨cls2, dd2, data2, sl2⟩, ho2, hc2, n2, hd2⟩ := id hb
  simp only at hc hd hc2 hd2
  subst hc hd hc2 hd2
  refine wpAny_richCompare_same_room (op := .NotEq) ⟨_, ho, rfl⟩ ⟨_, ho2, rfl⟩ F.slot_tuple_ne (GQ.call_here F.slot_tuple_ne ⟨_, ho, rfl⟩ F.entry_tuple_ne (F.args_tuple_ne_2 _ _) ?_) hu
  exact ne_body (R := wants (fun v s' => v ≠ .notImplemented ∧ Q v s') E) l b items items2 n n2 dd dd2 sl sl2 hsz J one (fun s' q => ⟨(fun x => nomatch x), last s' q⟩) ho ho2 h
end
end TN
namespace DL
open PySem PySem.Spec PyProof.Rows L2
section
variable {X : Cx} {M : LK} {W : WX}
/-- != of two pairs (text, instance) -/
def rNeI (K : PySem.W.Frag) (C : Addr) (sp : Sp) : R2 := fun x y H Q => ∃ (p1 p2 a dx : Addr) (z : Str) (w2 : V) (tb : Value) (fs : List (Str × V)), x = .ref p1 ∧ y = .ref p2 ∧ SqT K H p1 [.str z, .ref a] ∧ SqT K H p2 [.str z, w2] ∧ H a = some (.ins C dx fs) ∧ TyX K H w2 tb ∧ PySem.W.notFirst K C tb = true ∧ (∃ b, w2 = .ref b) ∧
  Q (.bl false) H ∧ sp [.ref a, w2] H (fun v H' => v = .bl true ∧ Q (.bl false) H') OB.noE
theorem op_neI {C : Addr} {sp : Sp} {k : Nat} {f : Addr} {fd : FuncData} {ps : List Str} (c : OB.EqC X.K C f) (F : FnOk X.prog X.w X.K X.mg X.base (L2.CX X.prog X.w) k f fd ps sp) (hr : Room (k + 1) X.A) (b : Binds X.K fd ps []) : OpR X (compareOp .NotEq) (rNeI X.K C sp) := by
  intro pins s σ H x y u v Q I rx ry h
  obtain ⟨p1, p2, a, dx, z, w2, tb, fs, rfl, rfl, h1, h2, ha, ty, nf, ⟨b2, rfl⟩, q0, hsp⟩ := h
  cases rx
  cases ry
  obtain ⟨its, r1, e1, _⟩ := I.tuple h1
  obtain ⟨its2, r2, e2, _⟩ := I.tuple h2
  obtain ⟨t1, rfl⟩ : ∃ t, its = [.str z t, .ref a] := by
    cases r1 with
    | cons z1 r =>
      cases r with
      | cons z2 r =>
        cases r
        obtain ⟨t, rfl⟩ := z1
        cases (show _ = Value.ref a from z2)
        exact ⟨t, rfl⟩
  obtain ⟨t2, rfl⟩ : ∃ t, its2 = [.str z t, .ref b2] := by
    cases r2 with
    | cons z1 r =>
      cases r with
      | cons z2 r =>
        cases r
        obtain ⟨t, rfl⟩ := z1
        cases (show _ = Value.ref b2 from z2)
        exact ⟨t, rfl⟩
  refine (show wpAny (model X.prog X.w) X.A (richCompare .NotEq (.ref p1) (.ref p2)) (EP X pins σ Q) X.xe s from ?_)
  refine TN.rc_ne (items := #[.str z t1, .ref a]) (items2 := #[.str z t2, .ref b2]) rfl hr.units0 (fun k s' => (k < 2 → Inv X pins σ H s') ∧ (k = 2 → ∃ H', Inv X pins σ H' s' ∧ Q (.bl false) H')) e1 e2 (fun k g1 g2 s' J => ?_) (fun s' J => ?_) ⟨fun _ => I, fun z => by cases z⟩
  · match k, g1, g2, J with
    | 0, _, _, J =>
      have e : (z == z) = true := beq_self_eq_true z
      have := SeqAt.EqAt.str_str (A := X.A.in1) (s := s') z t1 z t2
      rw [e] at this
      exact this X.prog X.w X.xe _ ⟨rfl, fun _ => J.1 (by decide), fun z => by cases z⟩
    | 1, _, _, J =>
      have I' := J.1 (by decide)
      show wpAny (model X.prog X.w) X.A.in1 (eqBool (.ref a) (.ref b2)) _ X.xe s'
      by_cases hab : a = b2
      · subst hab
        exact SeqAt.EqAt.same (A := X.A.in1) (s := s') (.ref a) X.prog X.w X.xe _ ⟨rfl, fun z => absurd z (by decide), fun _ => ⟨H, I', q0⟩⟩
      · obtain ⟨mA, J2, _⟩ := ins_get I'.hok ha
        obtain ⟨od, J2, _⟩ := J2.look
        obtain ⟨m, hF⟩ := I'.fr
        obtain ⟨P, Z, hP, _⟩ := kit_of I' (show RelV (.ref b2) (.ref b2) from rfl) ty
        refine GQ.eqBool_refG hab (PySem.W.cmp_K (op := .Eq) (tb := tb) hr.in1.units0 hF I'.ok.mod.kin J2 (Z.ty _ _ I'.kIn hP) nf c.eq c.fn ?_)
        refine wpAny_mono (OB.below (A := X.A.in1) F b hr.in1 rfl OB.passNo I' (us := [.ref a, .ref b2]) (vs := [.ref a, .ref b2]) (.cons rfl (.cons rfl .nil)) hsp) (fun w s2 q => ?_) fun _ _ z => z
        obtain ⟨w', H', I2, rz, rfl, q⟩ := q
        cases (show w = Value.bool true from rz)
        exact ⟨true, rfl, rfl, fun z => absurd z (by decide), fun _ => ⟨H', I2, q⟩⟩
    | k + 2, g1, _, _ => exact absurd (show k + 2 < 2 from g1) (by omega)
  · obtain ⟨H', I2, q⟩ := J.2 rfl
    exact ⟨.bl false, H', I2, rfl, q⟩
def gNeI (K : PySem.W.Frag) (C : Addr) (s : DSp) : GR2 := fun x y n q => match x, y with
  | .tup [.str a, .ins C1 ns xs], .tup [.str b, .ins C2 ms ys] => a = b ∧ C1 = C ∧ (∃ t, tyD K (.ins C2 ms ys) t ∧ PySem.W.notFirst K C t = true) ∧ s [.ins C1 ns xs, .ins C2 ms ys] n (fun d n' => d = .bl true ∧ n' = n) (fun _ _ _ _ => False) ∧ q (.bl false) n
  | x, y => eqD x y fun b => q (.bl (!b)) n
theorem op_neIX {C : Addr} {s : DSp} {k j : Nat} (c : EqD X.prog X.w X.K X.mg X.base M k C s) (hK : X.K = M.L.K) (hr : Room j X.A) (hkj : k + 1 ≤ j) : OpR X (compareOp .NotEq) (fun x y H Q => (rNe x y H Q ∨ rNeD M.L.K x y H Q) ∨ rNeI M.L.K C (lift M 2 s) x y H Q) := by
  obtain ⟨f, fd, ps, e, F, b⟩ := c.ex
  exact OpR.or (op_neX hK (by have := hr.un; omega)) (hK ▸ op_neI e F (hr.mono hkj) b)
theorem isl_two {G : Hp} {vs : List V} {d e : D} (h : DL.IsL M G vs [d, e]) : ∃ v w, vs = [v, w] ∧ Is M G v d ∧ Is M G w e := by
  match vs, h with
  | [a, b], h =>
    simp only [DL.IsL] at h
    exact ⟨a, b, rfl, h.1, h.2.1⟩
  | [], h => simp only [DL.IsL] at h
  | [_], h => simp only [DL.IsL, and_false] at h
  | _ :: _ :: _ :: _, h => simp only [DL.IsL, and_false] at h
theorem dr_neI {C : Addr} {s : DSp} : DR2 M (fun x y H Q => (rNe x y H Q ∨ rNeD M.L.K x y H Q) ∨ rNeI M.L.K C (lift M 2 s) x y H Q) (gNeI M.L.K C s) := by
  intro pn G n σ δ H v u x y q Q R ix iy h k
  unfold gNeI at h
  split at h
  · rename_i a C1 ns xs b C2 ms ys
    obtain ⟨rfl, rfl, ⟨t, ht, hn⟩, h1, h2⟩ := h
    simp only [Is] at ix iy
    obtain ⟨p1, vs, rfl, g1, i1⟩ := ix
    obtain ⟨p2, us, rfl, g2, i2⟩ := iy
    obtain ⟨v1, v2, rfl, i3, i4⟩ := isl_two i1
    obtain ⟨u1, u2, rfl, i5, i6⟩ := isl_two i2
    have i4' := i4
    have i6' := i6
    simp only [Is] at i3 i4' i5 i6'
    obtain ⟨c1, d1, f1, rfl, h3, h4, h5⟩ := i4'
    obtain ⟨c2, d2, f2, rfl, h6, h7, h8⟩ := i6'
    subst i3 i5
    refine .inr ⟨p1, p2, c1, d1, _, _, t, f1, rfl, rfl, R.ex.seqT g1, R.ex.seqT g2, R.ex _ _ h3, tyD_ok R.ex ht i6, hn, ⟨c2, rfl⟩, k G (.bl false) (.bl false) n H Adv.refl R (by simp only [Is]) h2, ?_⟩
    refine ⟨pn, G, n, _, _, fun _ _ _ _ => False, R.bare, by simp only [DL.IsL]; exact ⟨i4, i6, trivial⟩, rfl, h1, fun G' v d n' H' A' R' i' h' => ?_, fun G' C a ns xs n' H' A' R' x' h' => h'.elim⟩
    obtain ⟨rfl, rfl⟩ := h'
    simp only [Is] at i'
    exact ⟨i', k G' (.bl false) (.bl false) _ H' A' (R.back R' A') (by simp only [Is]) h2⟩
  · exact .inl (dr_ne pn G n σ δ H v u x y q Q R ix iy h k)
end
end DL

set_option Elab.async false
set_option linter.all false
set_option maxRecDepth 100000
set_option maxHeartbeats 8000000
set_option autoImplicit false
/-! k17: what the defs promise. -/
namespace DL
open PySem PySem.Spec PyProof.Rows L2
theorem boot_all : bootBuiltins "all" = some (.builtin "all") := by decide +kernel
theorem boot_ValueError : bootBuiltins "ValueError" = some (.type "ValueError") := by decide +kernel
section
variable {X : Cx} {M : LK} {W : WX}
/-- told(lambda: e), all in one -/
theorem dp_told {x a : Str} {c P cT : Addr} {k : Nat} {stT : Stmt} {Ng : List Str} {params : Arguments} {body : Expr} {scope : Scope} {p lpos pos : Pos} {told : DTold} {fb : DTE} (D : DefC X.K X.mg x stT [a] cT) (Sg : FnScope Ng [a] (defScope stT)) (hNg : Ng[0]? = some a) (hva : Vis (defScope stT) a)
    (hG : ∀ g, LamX.GivesS X Ng x (defScope stT) g (.ref cT) (defBody stT) a (X.env.qual ++ "<lambda>") (TTd M told))
    (TB : LamX.TabB X.base X.mg c P) (hcode : X.env.code = .ref c) (hmT : (P, X.env.qual ++ "<lambda>") ∈ M.L.T) (hu : ∀ p ∈ M.L.T, p.1 = P → p.2 = X.env.qual ++ "<lambda>") (hr : Room (k + 2) X.A) (L : LamX.LamS X.env.scope scope) (hdef : defaultsOf params X.env = ([], []))
    (hbind : ∀ (q : Str) (cl : List (Str × Addr)) (pm cv ctv : Value), bindArgs (PySem.W.kla_fn "<lambda>" q params body scope cl pm cv ctv) ⟨[], []⟩ = pure [])
    (hbody : ∀ (A : Around) (outer : List Env) (s : Shared) (H : Hp) (E : XK) (f c' : Addr), Room k (A.deeper (LamX.lamEnv X scope s.heap.objs.size f c')) → PE (LamX.lamCx X A outer s H E scope f c') body (liftE M (fun cls d _ H' => E cls d H') fb))
    (hg : Gl X x := by rfl) (hdb : (x == ("__debug__" : Str)) = false := by decide) (hd : (a == ("__debug__" : Str)) = false := by decide) (hcd : (a == ("__classdict__" : Str)) = false := by decide) :
    PE X (.Call (.Name x p) [.Lambda params body scope lpos] [] pos) (liftE M W (dLam told fb)) := by
  obtain ⟨g, oc, od, an, osl, dV, kV, doc, pm, ct, lk, hcd2, hm, kp, b⟩ := D.ex
  exact dp_lam (LamX.pe_lamcallS hg hm kp lk hcd2 b Sg hNg hva (hG g) TB hcode hmT hu hr L hdef hbind hbody hdb hd hcd)
end
end DL
namespace K17
open PySem PySem.Spec PyProof.Rows L2 DL
/-- where things stand -/
structure Ad where
  Address : Addr
  Area : Addr
  BadValue : Addr
  i_BadValue : Addr
  NotAName : Addr
  OffGrid : Addr
  i_OffGrid : Addr
  TooMany : Addr
  i_TooMany : Addr
  k_law_told : Addr
  k_law_in_order : Addr
  p_law_in_order : Addr
  k_law_made_right : Addr
  p_law_made_right : Addr
  k_law_pair_right : Addr
  p_law_pair_right : Addr
  k_law_cells_right : Addr
  p_law_cells_right : Addr
/-! ### plain functions -/
def LET : List Nat := [65, 66, 67, 68, 69, 70, 71, 72, 73, 74, 75, 76, 77, 78, 79, 80, 81, 82, 83, 84, 85, 86, 87, 88, 89, 90]
def isLet (c : Nat) : Bool := (decide (97 ≤ c) && decide (c ≤ 122)) || (decide (65 ≤ c) && decide (c ≤ 90))
def isDig (c : Nat) : Bool := decide (48 ≤ c) && decide (c ≤ 57)
/-- the letters of a column, by fuel -/
def lets : Nat → Nat → List Nat
  | 0, _ => []
  | k + 1, c => if c = 0 then [] else lets k ((c - 1) / 26) ++ [65 + (c - 1) % 26]
def lettersN (c : Nat) : List Nat := lets 3 c
def numU (l : List Nat) : Nat := l.foldl (fun a c => a * 26 + (up1 c - 65) + 1) 0
def colOk (l : List Nat) : Bool := decide (1 ≤ l.length) && decide (l.length ≤ 3) && l.all isLet
def ascii (l : List Nat) : Prop := l.all (· < 128) = true
def sheetOk (l : List Nat) : Bool := decide (1 ≤ l.length) && decide (l.length ≤ 12) && (match l with | c :: _ => isLet c | [] => false) && l.all fun c => isLet c || isDig c
def rowOk (l : List Nat) : Bool := decide (1 ≤ l.length) && decide (l.length ≤ 7) && (match l with | c :: _ => !decide (c = 48) | [] => false) && decide (PySem.NumText.digitsVal l ≤ 1000000)
/-- a place: row, column, marks, sheet -/
structure Pl where
  r : Int
  c : Int
  fr : Bool
  fc : Bool
  sh : Option (List Nat)
deriving DecidableEq
def onGrid (r c : Int) : Bool := (decide (1 ≤ r) && decide (r ≤ 1000000)) && (decide (1 ≤ c) && decide (c ≤ 18278))
def shOk (sh : Option (List Nat)) : Prop := ∀ l, sh = some l → sheetOk l = true
structure PlOk (p : Pl) : Prop where
  g : onGrid p.r p.c = true
  s : shOk p.sh
def shD : Option (List Nat) → D
  | none => .non
  | some l => .str l
def placeD (p : Pl) : D := .tup [.int p.r, .int p.c, .bl p.fr, .bl p.fc, shD p.sh]
def fN : List Str := ["row", "column", "fixed_row", "fixed_column", "sheet"]
def adrD (A : Ad) (p : Pl) : D := .ins A.Address fN [.int p.r, .int p.c, .bl p.fr, .bl p.fc, shD p.sh]
def dollar (f : Bool) : List Nat := if f then [36] else []
def colText (c : Int) (f : Bool) : List Nat := dollar f ++ lettersN c.toNat
def rowText (r : Int) (f : Bool) : List Nat := dollar f ++ decI r
def shText : Option (List Nat) → List Nat
  | none => []
  | some l => l ++ [33]
def cellText (p : Pl) : List Nat := colText p.c p.fc ++ rowText p.r p.fr
def textOf (p : Pl) : List Nat := shText p.sh ++ cellText p
def hasD (l : List Nat) : Bool := decide (l.take 1 = [36])
def unm (l : List Nat) : List Nat := if hasD l then l.drop 1 else l
def readCol (l : List Nat) : Option (Int × Bool) := if colOk (unm l) then some ((numU (unm l) : Nat), hasD l) else none
def readRow (l : List Nat) : Option (Int × Bool) := if (unm l).all isDig && rowOk (unm l) then some ((PySem.NumText.digitsVal (unm l) : Nat), hasD l) else none
def splitN (l : List Nat) : Nat := (l.length - (unm l).length) + ((unm l).takeWhile isLet).length
def readCell (l : List Nat) (sh : Option (List Nat)) : Option Pl := match readCol (l.take (splitN l)), readRow (l.drop (splitN l)) with
  | some c, some r => some ⟨r.1, c.1, r.2, c.2, sh⟩
  | _, _ => none
/-- the sheet ahead of a text, and the rest -/
def parted (l : List Nat) : Option (Option (List Nat) × List Nat) := if 33 ∈ l then (if sheetOk (partL 33 l).1 then some (some (partL 33 l).1, (partL 33 l).2.2) else none) else some (none, l)
def partD (l : List Nat) : D := match parted l with
  | none => .tup [.non, .non]
  | some (sh, rest) => .tup [shD sh, .str rest]
def readAddr (l : List Nat) : Option Pl := match parted l with
  | none => none
  | some (sh, rest) => readCell rest sh
def pairD : Option (Int × Bool) → D
  | none => .non
  | some (i, b) => .tup [.int i, .bl b]
def adrO (A : Ad) : Option Pl → D
  | none => .non
  | some p => adrD A p
def plO : Option Pl → D
  | none => .non
  | some p => placeD p
def sameSh : Option (List Nat) → Option (List Nat) → Bool
  | none, none => true
  | some a, some b => decide (a.map lo1 = b.map lo1)
  | _, _ => false
def sameA (p q : Pl) : Bool := decide (p.r = q.r) && decide (p.c = q.c) && decide (p.fr = q.fr) && decide (p.fc = q.fc) && sameSh p.sh q.sh
/-- each sign as it is or small -/
def Low : List Nat → List Nat → Prop
  | [], [] => True
  | a :: l, b :: l' => (b = a ∨ b = lo1 a) ∧ Low l l'
  | _, _ => False
/-! ### promises -/
def isIntD : D → Bool | .int _ => true | _ => false
def isBlD : D → Bool | .bl _ => true | _ => false
def isStrD : D → Bool | .str _ => true | _ => false
def shOkD : D → Bool | .non => true | .str l => sheetOk l | _ => false
def kd (x : D) : Prop := (kindD x).isSome = true ∧ ∀ l, x = .str l → l.length ≤ 1000
def s_is_integer (A : Ad) : DSp := fun ds n q _ => ∃ x, ds = [x] ∧ (kindD x).isSome = true ∧ q (.bl (isIntD x)) n
def s_need_integer (A : Ad) : DSp := fun ds n q e => ∃ x, ds = [x] ∧ (kindD x).isSome = true ∧ (isIntD x = true → q .non n) ∧ (isIntD x = false → e A.BadValue ["value"] [x] n)
def s_need_truth (A : Ad) : DSp := fun ds n q e => ∃ x, ds = [x] ∧ (kindD x).isSome = true ∧ (isBlD x = true → q .non n) ∧ (isBlD x = false → e A.BadValue ["value"] [x] n)
def s_is_digit (A : Ad) : DSp := fun ds n q _ => ∃ c, ds = [.str [c]] ∧ q (.bl (isDig c)) n
def s_is_letter (A : Ad) : DSp := fun ds n q _ => ∃ c, ds = [.str [c]] ∧ q (.bl (isLet c)) n
def s_is_sheet_word (A : Ad) : DSp := fun ds n q _ => ∃ l : List Nat, ds = [.str l] ∧ l.length ≤ 1000 ∧ q (.bl (sheetOk l)) n
def s_is_on_grid (A : Ad) : DSp := fun ds n q _ => ∃ r c : Int, ds = [.int r, .int c] ∧ q (.bl (onGrid r c)) n
def s_need_sheet_word (A : Ad) : DSp := fun ds n q e => ∃ x, ds = [x] ∧ kd x ∧ (shOkD x = true → q .non n) ∧ (shOkD x = false → e A.BadValue ["value"] [x] n)
def shA (sh : Option (List Nat)) : Prop := ∀ l, sh = some l → ascii l ∧ l.length ≤ 1000
def s_same_sheets (A : Ad) : DSp := fun ds n q _ => ∃ a b, ds = [shD a, shD b] ∧ shA a ∧ shA b ∧ q (.bl (sameSh a b)) n
/-- the first of the five that is bad -/
def badOf (x1 x2 x3 x4 x5 : D) : Option D := if isIntD x1 = false then some x1 else if isIntD x2 = false then some x2 else if isBlD x3 = false then some x3 else if isBlD x4 = false then some x4 else if shOkD x5 = false then some x5 else none
/-- what becomes of Address(x1, .., x5); q: of the good -/
def adrEnd (A : Ad) (x1 x2 x3 x4 x5 : D) (q : Prop) (e : DY) (n : NS) : Prop := (kd x1 ∧ kd x2 ∧ kd x3 ∧ kd x4 ∧ kd x5) ∧ (∀ b, badOf x1 x2 x3 x4 x5 = some b → e A.BadValue ["value"] [b] n) ∧
  (badOf x1 x2 x3 x4 x5 = none → ∀ r c, x1 = .int r → x2 = .int c → (onGrid r c = true → q) ∧ (onGrid r c = false → e A.OffGrid ["row", "column"] [.int r, .int c] n))
def s_Address_init (A : Ad) : DSp := fun ds n q e => ∃ a dx x1 x2 x3 x4 x5, ds = [.ref a, x1, x2, x3, x4, x5] ∧ n.mu a = some (.ins A.Address dx [] []) ∧ adrEnd A x1 x2 x3 x4 x5 (q .non ⟨n.at_, mup n.mu a (some (.ins A.Address dx fN [x1, x2, x3, x4, x5]))⟩) e n
def s_Address (A : Ad) : DSp := fun ds n q e => ∃ x1 x2 x3 x4 x5, ds = [x1, x2, x3, x4, x5] ∧ adrEnd A x1 x2 x3 x4 x5 (q (.ins A.Address fN [x1, x2, x3, x4, x5]) n) e n
def s_need_address (A : Ad) : DSp := fun ds n q e => ∃ x, ds = [x] ∧ ((∃ p, x = adrD A p ∧ q .non n) ∨ ((kindD x).isSome = true ∧ e A.BadValue ["value"] [x] n))
def s_Address_eq (A : Ad) : DSp := fun ds n q _ => ∃ p y, ds = [adrD A p, y] ∧ shA p.sh ∧ ((∃ p', y = adrD A p' ∧ shA p'.sh ∧ q (.bl (sameA p p')) n) ∨ ((kindD y).isSome = true ∧ q (.bl false) n))
def lim (n : NS) (k : Nat) : Prop := n.at_ + k < 1000000
def s__law_draw (A : Ad) : DSp := fun ds n q _ => ∃ m : Int, ds = [.pen, .int m] ∧ 0 < m ∧ m < 1073741824 ∧ lim n 1 ∧ ∀ k t, 0 ≤ k → k < m → n.at_ ≤ t → t ≤ n.at_ + 1 → q (.int k) ⟨t, n.mu⟩
def s__law_pick (A : Ad) : DSp := fun ds n q _ => ∃ xs : List D, ds = [.pen, .lst xs] ∧ 0 < xs.length ∧ xs.length ≤ 1000 ∧ lim n 1 ∧ ∀ x t, x ∈ xs → n.at_ ≤ t → t ≤ n.at_ + 1 → q x ⟨t, n.mu⟩
/-- what told makes of a call -/
def s_law_told (A : Ad) : DTold := fun call n q => call n (fun d n' => q (.tup [.str [116, 111, 108, 100], d]) n') fun C ns xs n' =>
  (C = A.BadValue ∧ ∃ x, ns = [("value" : Str)] ∧ xs = [x] ∧ q (.tup [.str [66, 97, 100, 86, 97, 108, 117, 101], x]) n') ∨ (C = A.TooMany ∧ ∃ x, ns = [("most" : Str)] ∧ xs = [x] ∧ q (.tup [.str [84, 111, 111, 77, 97, 110, 121], x]) n')
/-! ### areas -/
abbrev IB := Int × Bool
structure Ar where
  t : IB
  b : IB
  l : IB
  r : IB
  w : Nat
  sh : Option (List Nat)
deriving DecidableEq
def COLS : List Nat := [99, 111, 108, 117, 109, 110, 115]
def ROWS : List Nat := [114, 111, 119, 115]
def whD : Nat → D
  | 0 => .non
  | 1 => .str COLS
  | _ => .str ROWS
def prD (x : IB) : D := .tup [.int x.1, .bl x.2]
def fst (a : Ar) : Pl := ⟨a.t.1, a.l.1, a.t.2, a.l.2, a.sh⟩
def lst (a : Ar) : Pl := ⟨a.b.1, a.r.1, a.b.2, a.r.2, a.sh⟩
def aN : List Str := ["first", "last", "whole", "sheet", "height", "width"]
def areaD (A : Ad) (a : Ar) : D := .ins A.Area aN [adrD A (fst a), adrD A (lst a), whD a.w, shD a.sh, .int (a.b.1 - a.t.1 + 1), .int (a.r.1 - a.l.1 + 1)]
/-- the corners as they are told: rows, columns, whole, sheet -/
def areaT (x y u v : IB) (w : Nat) (sh : Option (List Nat)) : D := .tup [.lst [prD x, prD y], .lst [prD u, prD v], whD w, shD sh]
def normT (a : Ar) : D := areaT a.t a.b a.l a.r a.w a.sh
def kOf (x : IB) : IB := (x.1, !x.2)
def inOrd (x y : IB) : IB × IB := if ahead (kOf y) (kOf x) then (y, x) else (x, y)
def nRows (x y : IB) (w : Nat) : IB × IB := if w = 1 then ((1, false), (1000000, false)) else inOrd x y
def nCols (u v : IB) (w : Nat) : IB × IB := if w = 2 then ((1, false), (18278, false)) else inOrd u v
def nrm (x y u v : IB) (w : Nat) (sh : Option (List Nat)) : Ar := ⟨(nRows x y w).1, (nRows x y w).2, (nCols u v w).1, (nCols u v w).2, w, sh⟩
def rowIn (x : IB) : Prop := 1 ≤ x.1 ∧ x.1 ≤ 1000000
def colIn (x : IB) : Prop := 1 ≤ x.1 ∧ x.1 ≤ 18278
/-- what an area must be -/
structure ArOk (a : Ar) : Prop where
  t : rowIn a.t
  b : rowIn a.b
  l : colIn a.l
  r : colIn a.r
  w : a.w ≤ 2
  s : shOk a.sh
def sameAr (a b : Ar) : Bool := decide (a.w = b.w) && sameA (fst a) (fst b) && sameA (lst a) (lst b)
def cornerT (p : Pl) (w : Nat) : List Nat := if w = 1 then colText p.c p.fc else if w = 2 then rowText p.r p.fr else cellText p
def areaText (a : Ar) : List Nat := shText a.sh ++ (if a.w = 0 ∧ cornerT (fst a) a.w = cornerT (lst a) a.w then cornerT (fst a) a.w else cornerT (fst a) a.w ++ [58] ++ cornerT (lst a) a.w)
def readWhole (f l : List Nat) (sh : Option (List Nat)) : Option Ar := match readCol f, readCol l with
  | some u, some v => some (nrm (1, false) (1, false) u v 1 sh)
  | _, _ => match readRow f, readRow l with
    | some x, some y => some (nrm x y (1, false) (1, false) 2 sh)
    | _, _ => none
def lastOf (rest : List Nat) : List Nat := if 58 ∈ rest then (partL 58 rest).2.2 else (partL 58 rest).1
def readRest (sh : Option (List Nat)) (rest : List Nat) : Option Ar := match readCell (partL 58 rest).1 sh, readCell (lastOf rest) none with
  | some p, some q => some (nrm (p.r, p.fr) (q.r, q.fr) (p.c, p.fc) (q.c, q.fc) 0 sh)
  | _, _ => if 58 ∈ rest then readWhole (partL 58 rest).1 (partL 58 rest).2.2 sh else none
def readArea (l : List Nat) : Option Ar := match parted l with
  | none => none
  | some (sh, rest) => readRest sh rest
def areaO (A : Ad) : Option Ar → D
  | none => .non
  | some a => areaD A a
def normO : Option Ar → D
  | none => .non
  | some a => normT a
def s_in_order (A : Ad) : DSp := fun ds n q _ => ∃ x y : IB, ds = [prD x, prD y] ∧ q (.tup [prD (inOrd x y).1, prD (inOrd x y).2]) n
def s_normal_rows (A : Ad) : DSp := fun ds n q _ => ∃ (p p' : Pl) (w : Nat), ds = [adrD A p, adrD A p', whD w] ∧ w ≤ 2 ∧ q (.tup [prD (nRows (p.r, p.fr) (p'.r, p'.fr) w).1, prD (nRows (p.r, p.fr) (p'.r, p'.fr) w).2]) n
def s_normal_columns (A : Ad) : DSp := fun ds n q _ => ∃ (p p' : Pl) (w : Nat), ds = [adrD A p, adrD A p', whD w] ∧ w ≤ 2 ∧ q (.tup [prD (nCols (p.c, p.fc) (p'.c, p'.fc) w).1, prD (nCols (p.c, p.fc) (p'.c, p'.fc) w).2]) n
def nrmP (p p' : Pl) (w : Nat) : Ar := nrm (p.r, p.fr) (p'.r, p'.fr) (p.c, p.fc) (p'.c, p'.fc) w p.sh
def s_Area_eq (A : Ad) : DSp := fun ds n q _ => ∃ a b : Ar, ds = [areaD A a, areaD A b] ∧ shA a.sh ∧ shA b.sh ∧ a.w ≤ 2 ∧ b.w ≤ 2 ∧ q (.bl (sameAr a b)) n
def s_need_area (A : Ad) : DSp := fun ds n q e => ∃ x, ds = [x] ∧ ((∃ a, x = areaD A a ∧ q .non n) ∨ ((kindD x).isSome = true ∧ e A.BadValue ["value"] [x] n))
def s__law_made (A : Ad) : DSp := fun ds n q _ => ∃ p, ds = [placeD p] ∧ PlOk p ∧ q (adrD A p) n
def s__law_is (A : Ad) : DSp := fun ds n q _ => ∃ p, ds = [adrD A p, placeD p] ∧ shA p.sh ∧ q (.bl true) n
def s__law_corners (A : Ad) : DSp := fun ds n q _ => ∃ b1 b2 : Int, ds = [.pen, .tup [.int b1, .int b2]] ∧ lim n 20 ∧ ∀ x y u v t, (b1 + 1 ≤ x.1 ∧ x.1 ≤ b1 + 7) → (b1 + 1 ≤ y.1 ∧ y.1 ≤ b1 + 7) → (b2 + 1 ≤ u.1 ∧ u.1 ≤ b2 + 7) → (b2 + 1 ≤ v.1 ∧ v.1 ≤ b2 + 7) → n.at_ ≤ t → t ≤ n.at_ + 10 → q (.tup [.lst [prD x, prD y], .lst [prD u, prD v]]) ⟨t, n.mu⟩
def s__law_in_order (A : Ad) : DSp := fun ds n q _ => ∃ x y : IB, ds = [.lst [prD x, prD y]] ∧ q (.lst [prD (inOrd x y).1, prD (inOrd x y).2]) n
/-- an area as the law draws it -/
structure TOk (x y u v : IB) (w : Nat) (sh : Option (List Nat)) : Prop where
  x : rowIn x
  y : rowIn y
  u : colIn u
  v : colIn v
  w : w ≤ 2
  s : shOk sh
def s__law_area (A : Ad) : DSp := fun ds n q _ => ∃ (b1 b2 : Int) (ss : List D), ds = [.pen, .tup [.int b1, .int b2], .lst ss] ∧ 0 ≤ b1 ∧ b1 + 7 ≤ 1000000 ∧ 0 ≤ b2 ∧ b2 + 7 ≤ 18278 ∧ 0 < ss.length ∧ ss.length ≤ 100 ∧ (∀ d ∈ ss, ∃ sh, d = shD sh ∧ shOk sh) ∧ lim n 40 ∧ ∀ x y u v w sh t, TOk x y u v w sh → shD sh ∈ ss → n.at_ ≤ t → t ≤ n.at_ + 20 → q (areaT x y u v w sh) ⟨t, n.mu⟩
def s__law_normal (A : Ad) : DSp := fun ds n q _ => ∃ x y u v w sh, ds = [areaT x y u v w sh] ∧ w ≤ 2 ∧ q (normT (nrm x y u v w sh)) n
def s__law_corner (A : Ad) : DSp := fun ds n q _ => ∃ x y u v w sh, (ds = [areaT x y u v w sh, .int 0] ∧ q (placeD ⟨x.1, u.1, x.2, u.2, sh⟩) n) ∨ (ds = [areaT x y u v w sh, .int 1] ∧ q (placeD ⟨y.1, v.1, y.2, v.2, sh⟩) n)
def s__law_area_made (A : Ad) : DSp := fun ds n q _ => ∃ x y u v w sh, ds = [areaT x y u v w sh] ∧ TOk x y u v w sh ∧ q (areaD A (nrm x y u v w sh)) n
def s__law_is_area (A : Ad) : DSp := fun ds n q _ => ∃ a : Ar, ds = [areaD A a, normT a] ∧ shA a.sh ∧ a.w ≤ 2 ∧ q (.bl true) n
/-! ### k17 -/
def bareAr (t l b r : Int) (w : Nat) (sh : Option (List Nat)) : Ar := ⟨(t, false), (b, false), (l, false), (r, false), w, sh⟩
def meetSh (a b : Option (List Nat)) : Bool := a.isNone || b.isNone || sameSh a b
def okSh (a b : Option (List Nat)) : Bool := b.isNone || sameSh a b
/-- a third argument that is no word for whole areas -/
structure OddW (x : D) : Prop where
  kd : kd x
  nn : isNon x = false
  c : ∀ k : Bool → Prop, k false → eqD x (.str COLS) k
  r : ∀ k : Bool → Prop, k false → eqD x (.str ROWS) k
/-- what becomes of Area(x1, x2, whole = x3) for an address x1 -/
def arEnd (A : Ad) (p : Pl) (x2 x3 : D) (q : Nat → Pl → Prop) (e : DY) (n : NS) : Prop := PlOk p ∧ (((kindD x2).isSome = true ∧ e A.BadValue ["value"] [x2] n) ∨
  ∃ p', x2 = adrD A p' ∧ PlOk p' ∧ (okSh p.sh p'.sh = false → e A.BadValue ["value"] [x2] n) ∧ (okSh p.sh p'.sh = true → (∃ w, x3 = whD w ∧ w ≤ 2 ∧ q w p') ∨ (OddW x3 ∧ e A.BadValue ["value"] [x3] n)))
def s_Area_init (A : Ad) : DSp := fun ds n q e => ∃ (a dx : Addr) (p : Pl) (x2 x3 : D), ds = [.ref a, adrD A p, x2, x3] ∧ n.mu a = some (.ins A.Area dx [] []) ∧
  arEnd A p x2 x3 (fun w p' => q .non ⟨n.at_, mup n.mu a (some (.ins A.Area dx aN [adrD A (fst (nrmP p p' w)), adrD A (lst (nrmP p p' w)), whD w, shD p.sh, .int ((nrmP p p' w).b.1 - (nrmP p p' w).t.1 + 1), .int ((nrmP p p' w).r.1 - (nrmP p p' w).l.1 + 1)]))⟩) e n
def s_Area (A : Ad) : DSp := fun ds n q e => ∃ (p : Pl) (x2 x3 : D), ds = [adrD A p, x2, x3] ∧ arEnd A p x2 x3 (fun w p' => q (areaD A (nrmP p p' w)) n) e n
/-- a normal area -/
structure ArN (a : Ar) : Prop extends ArOk a where
  tb : a.t.1 ≤ a.b.1
  lr : a.l.1 ≤ a.r.1
  w1 : a.w = 1 → a.t.1 = 1 ∧ a.b.1 = 1000000
  w2 : a.w = 2 → a.l.1 = 1 ∧ a.r.1 = 18278
def s_plain_area (A : Ad) : DSp := fun ds n q _ => ∃ (t l b r : Int) (sh : Option (List Nat)) (w : Nat), ds = [.int t, .int l, .int b, .int r, shD sh, whD w] ∧ ArN (bareAr t l b r w sh) ∧ q (areaD A (bareAr t l b r w sh)) n
def s_may_meet (A : Ad) : DSp := fun ds n q _ => ∃ a b, ds = [shD a, shD b] ∧ shA a ∧ shA b ∧ q (.bl (meetSh a b)) n
def imax (i j : Int) : Int := if j > i then j else i
def imin (i j : Int) : Int := if j < i then j else i
def shared (a b : Ar) : Option Ar := if imin a.b.1 b.b.1 < imax a.t.1 b.t.1 ∨ imin a.r.1 b.r.1 < imax a.l.1 b.l.1 ∨ meetSh a.sh b.sh = false then none
  else some (bareAr (imax a.t.1 b.t.1) (imax a.l.1 b.l.1) (imin a.b.1 b.b.1) (imin a.r.1 b.r.1) (if a.w = b.w then a.w else 0) (if a.sh = none then b.sh else a.sh))
def partOf (a : Ar) (t l b r : Int) : List Ar := if b < t ∨ r < l then [] else [bareAr t l b r (if a.w = 1 ∧ b - t + 1 = 1000000 then 1 else if a.w = 2 ∧ r - l + 1 = 18278 then 2 else 0) a.sh]
def partsOf (a : Ar) : Option Ar → List Ar
  | none => partOf a a.t.1 a.l.1 a.b.1 a.r.1
  | some h => partOf a a.t.1 a.l.1 (h.t.1 - 1) a.r.1 ++ partOf a (h.b.1 + 1) a.l.1 a.b.1 a.r.1 ++ partOf a h.t.1 a.l.1 h.b.1 (h.l.1 - 1) ++ partOf a h.t.1 (h.r.1 + 1) h.b.1 a.r.1
/-- h lies in a -/
structure In (h a : Ar) : Prop where
  t : a.t.1 ≤ h.t.1
  b : h.b.1 ≤ a.b.1
  l : a.l.1 ≤ h.l.1
  r : h.r.1 ≤ a.r.1
  tb : h.t.1 ≤ h.b.1
  lr : h.l.1 ≤ h.r.1
def s_common_area (A : Ad) : DSp := fun ds n q _ => ∃ a b, ds = [areaD A a, areaD A b] ∧ ArN a ∧ ArN b ∧ q (areaO A (shared a b)) n
def s_part_of (A : Ad) : DSp := fun ds n q _ => ∃ (a : Ar) (t l b r : Int), ds = [areaD A a, .int t, .int l, .int b, .int r] ∧ ArN a ∧ (t ≤ b → l ≤ r → a.t.1 ≤ t ∧ b ≤ a.b.1 ∧ a.l.1 ≤ l ∧ r ≤ a.r.1) ∧ q (.lst ((partOf a t l b r).map (areaD A))) n
def s_parts_without (A : Ad) : DSp := fun ds n q _ => ∃ (a : Ar) (h : Option Ar), ds = [areaD A a, areaO A h] ∧ ArN a ∧ (∀ x, h = some x → In x a) ∧ q (.lst ((partsOf a h).map (areaD A))) n
def s_Area_common (A : Ad) : DSp := fun ds n q e => ∃ a x, ds = [areaD A a, x] ∧ ArN a ∧ ((∃ b, x = areaD A b ∧ ArN b ∧ q (areaO A (shared a b)) n) ∨ ((kindD x).isSome = true ∧ e A.BadValue ["value"] [x] n))
def s_Area_without (A : Ad) : DSp := fun ds n q _ => ∃ a b, ds = [areaD A a, areaD A b] ∧ ArN a ∧ ArN b ∧ q (.tup ((partsOf a (shared a b)).map (areaD A))) n
def hasB (a : Ar) (p : Pl) : Bool := meetSh a.sh p.sh && ((decide (a.t.1 ≤ p.r) && decide (p.r ≤ a.b.1)) && (decide (a.l.1 ≤ p.c) && decide (p.c ≤ a.r.1)))
def s_Area_has (A : Ad) : DSp := fun ds n q _ => ∃ a p, ds = [areaD A a, adrD A p] ∧ ArN a ∧ PlOk p ∧ q (.bl (hasB a p)) n
def hgt (a : Ar) : Int := a.b.1 - a.t.1 + 1
def wdt (a : Ar) : Int := a.r.1 - a.l.1 + 1
def cellsOf (a : Ar) : List Pl := (List.range (hgt a).toNat).flatMap fun i => (List.range (wdt a).toNat).map fun j => ⟨a.t.1 + (i : Nat), a.l.1 + (j : Nat), false, false, a.sh⟩
def s_Area_cells (A : Ad) : DSp := fun ds n q e => ∃ a, ds = [areaD A a] ∧ ArN a ∧ (10000 < hgt a * wdt a → e A.TooMany ["most"] [.int 10000] n) ∧ (hgt a * wdt a ≤ 10000 → q (.tup ((cellsOf a).map (adrD A))) n)
def s__law_bare (A : Ad) : DSp := fun ds n q _ => ∃ (t l b r : Int) (w : Nat) (sh : Option (List Nat)), ds = [.int t, .int l, .int b, .int r, whD w, shD sh] ∧ q (normT (bareAr t l b r w sh)) n
def s__law_meet (A : Ad) : DSp := fun ds n q _ => ∃ a b, ds = [shD a, shD b] ∧ shA a ∧ shA b ∧ q (.bl (meetSh a b)) n
def s__law_shared (A : Ad) : DSp := fun ds n q _ => ∃ a b, ds = [normT a, normT b] ∧ ArN a ∧ ArN b ∧ q (normO (shared a b)) n
def s__law_left_over (A : Ad) : DSp := fun ds n q _ => ∃ (a : Ar) (h : Option Ar), ds = [normT a, normO h] ∧ a.w ≤ 2 ∧ (∀ x, h = some x → x.w ≤ 2) ∧ q (.lst ((partsOf a h).map normT)) n
def s__law_alike (A : Ad) : DSp := fun ds n q _ => ∃ a b, ds = [normT a, normT b] ∧ ArN a ∧ ArN b ∧ q (.bl (sameAr a b)) n
def ONE : List Nat := [79, 110, 101]
def one : List Nat := [111, 110, 101]
def TWO : List Nat := [84, 119, 111]
abbrev SHS : List (Option (List Nat)) := [none, some ONE, some one, some TWO]
def s__law_made_right (A : Ad) : DSp := fun ds n q _ => ∃ x y u v w sh, ds = [.pen, areaT x y u v w sh] ∧ TOk x y u v w sh ∧ sh ∈ SHS ∧ lim n 20 ∧ ∀ t, n.at_ ≤ t → t ≤ n.at_ + 10 → q (.bl true) ⟨t, n.mu⟩
def s__law_pair_right (A : Ad) : DSp := fun ds n q _ => ∃ x y u v w sh x' y' u' v' w' sh', ds = [.pen, areaT x y u v w sh, areaT x' y' u' v' w' sh'] ∧ TOk x y u v w sh ∧ TOk x' y' u' v' w' sh' ∧ q (.bl true) n
def s__law_has_right (A : Ad) : DSp := fun ds n q _ => ∃ x y u v w sh, ∃ b1 b2 : Int, ds = [.pen, areaT x y u v w sh, .tup [.int b1, .int b2]] ∧ TOk x y u v w sh ∧ (0 ≤ b1 ∧ b1 + 7 ≤ 1000000 ∧ 0 ≤ b2 ∧ b2 + 7 ≤ 18278) ∧ lim n 40 ∧ ∀ t, n.at_ ≤ t → t ≤ n.at_ + 20 → q (.bl true) ⟨t, n.mu⟩
def s__law_cells_right (A : Ad) : DSp := fun ds n q _ => ∃ x y u v w sh, ds = [.pen, areaT x y u v w sh] ∧ TOk x y u v w sh ∧ lim n 20 ∧ ∀ t, n.at_ ≤ t → t ≤ n.at_ + 10 → q (.bl true) ⟨t, n.mu⟩
end K17

set_option Elab.async false
set_option linter.all false
set_option maxRecDepth 100000
set_option maxHeartbeats 8000000
set_option autoImplicit false
namespace K17
open PySem PySem.Spec PyProof.Rows L2 DL
def top (i : Nat) : Stmt := PySem.Challenge.pw_allinputs_k17_areas.main.body.getD i (.Pass ⟨0, 0, 0, 0⟩)
theorem hu64 {k : Nat} {A : Around} (hr : Room k A) : A.units + 64 < cLine := by
  have := hr.un
  omega
theorem hu65 {k : Nat} {A : Around} (hr : Room k A) : A.units + 65 < cLine := by
  have := hr.un
  omega
/-- what the text says of the module -/
structure Txt (P : Program) (K : PySem.W.Frag) (mg : Str → Option Value) (A : Ad) : Prop where
  n_all : mg "all" = none
  n_bool : mg "bool" = none
  n_int : mg "int" = none
  n_isinstance : mg "isinstance" = none
  n_len : mg "len" = none
  n_max : mg "max" = none
  n_min : mg "min" = none
  n_range : mg "range" = none
  n_sorted : mg "sorted" = none
  n_str : mg "str" = none
  n_tuple : mg "tuple" = none
  g_MOST_CELLS : ∃ u, mg "MOST_CELLS" = some u ∧ RelV (.int 10000) u
  g_MOST_COLUMNS : ∃ u, mg "MOST_COLUMNS" = some u ∧ RelV (.int 18278) u
  g_MOST_ROWS : ∃ u, mg "MOST_ROWS" = some u ∧ RelV (.int 1000000) u
  c_Address : mg "Address" = some (.ref A.Address)
  c_Area : mg "Area" = some (.ref A.Area)
  c_BadValue : mg "BadValue" = some (.ref A.BadValue)
  c_NotAName : mg "NotAName" = some (.ref A.NotAName)
  c_OffGrid : mg "OffGrid" = some (.ref A.OffGrid)
  c_TooMany : mg "TooMany" = some (.ref A.TooMany)
  e_BadValue : PySem.EX.ErrTxt P K mg "BadValue" "value" A.BadValue A.i_BadValue
  e_OffGrid : PySem.EY.ErrTxt P K mg "OffGrid" "row" "column" A.OffGrid A.i_OffGrid
  e_TooMany : PySem.EX.ErrTxt P K mg "TooMany" "most" A.TooMany A.i_TooMany
  fl_column : FldOk K [A.Address] "column"
  fl_first : FldOk K [A.Area] "first"
  fl_fixed_column : FldOk K [A.Address] "fixed_column"
  fl_fixed_row : FldOk K [A.Address] "fixed_row"
  fl_height : FldOk K [A.Area] "height"
  fl_last : FldOk K [A.Area] "last"
  fl_row : FldOk K [A.Address] "row"
  fl_sheet : FldOk K [A.Address, A.Area] "sheet"
  fl_whole : FldOk K [A.Area] "whole"
  fl_width : FldOk K [A.Area] "width"
  xf_BadValue : XfC K A.BadValue
  xf_NotAName : XfC K A.NotAName
  xf_OffGrid : XfC K A.OffGrid
  xf_TooMany : XfC K A.TooMany
  no_BadValue_value : PySem.W.findIn K (.ref A.BadValue) "value" = some none
  no_NotAName_name : PySem.W.findIn K (.ref A.NotAName) "name" = some none
  no_OffGrid_column : PySem.W.findIn K (.ref A.OffGrid) "column" = some none
  no_OffGrid_row : PySem.W.findIn K (.ref A.OffGrid) "row" = some none
  no_TooMany_most : PySem.W.findIn K (.ref A.TooMany) "most" = some none
  m_BB : PySem.W.exmOne K (.ref A.BadValue) (.ref A.BadValue) = some true
  m_TB : PySem.W.exmOne K (.ref A.TooMany) (.ref A.BadValue) = some false
  m_TN : PySem.W.exmOne K (.ref A.TooMany) (.ref A.NotAName) = some false
  m_TO : PySem.W.exmOne K (.ref A.TooMany) (.ref A.OffGrid) = some false
  m_TT : PySem.W.exmOne K (.ref A.TooMany) (.ref A.TooMany) = some true
  i_A : InsC K A.Address
  i_R : InsC K A.Area
  k_A : PySem.W.kitOne K (.ref A.Address) (.ref A.Address) = some true
  k_R : PySem.W.kitOne K (.ref A.Area) (.ref A.Area) = some true
  k_NoneType : PySem.W.kitOne K (.type "NoneType") (.ref A.Address) = some false
  k_bool : PySem.W.kitOne K (.type "bool") (.ref A.Address) = some false
  k_int : PySem.W.kitOne K (.type "int") (.ref A.Address) = some false
  k_str : PySem.W.kitOne K (.type "str") (.ref A.Address) = some false
  k_list : PySem.W.kitOne K (.type "list") (.ref A.Address) = some false
  k_tuple : PySem.W.kitOne K (.type "tuple") (.ref A.Address) = some false
  r_NoneType : PySem.W.kitOne K (.type "NoneType") (.ref A.Area) = some false
  r_bool : PySem.W.kitOne K (.type "bool") (.ref A.Area) = some false
  r_int : PySem.W.kitOne K (.type "int") (.ref A.Area) = some false
  r_str : PySem.W.kitOne K (.type "str") (.ref A.Area) = some false
  r_list : PySem.W.kitOne K (.type "list") (.ref A.Area) = some false
  r_tuple : PySem.W.kitOne K (.type "tuple") (.ref A.Area) = some false
  f_A : PySem.W.notFirst K A.Address (.ref A.Address) = true
  f_R : PySem.W.notFirst K A.Area (.ref A.Area) = true
  d_law_told : DefC K mg "_law_told" (top 40) ["_law_call"] A.k_law_told
abbrev XC (P : Program) (w : World) (K : PySem.W.Frag) (mg : Str → Option Value) (base : Heap) (N : List Str) (x : Str) (st : Stmt) (f : Addr) (cdv : Value) (A : Around) (outer : List Env) (s : Shared) (H : Hp) (E : XK) : Cx := cxOf (L2.CX P w) P w K mg base N x (defScope st) f cdv A outer s H E
abbrev MM (K : PySem.W.Frag) (Tb : List (Addr × Str)) (pn : Addr) (cs : List Int) : LK := MK K Tb "at" "left" pn cs
theorem KO {K : PySem.W.Frag} {Tb : List (Addr × Str)} {pn : Addr} {cs : List Int} : KeysOk (MM K Tb pn cs) := ⟨(by decide : ("at" : Str) ≠ "cells"), (by decide : ("left" : Str) ≠ "cells"), (by decide : ("left" : Str) ≠ "at")⟩
def g_Address_new0 (ds es : List D) : List D := match ds, es with | [x0, x1], [y0, y1, y2] => [x0, x1, y0, y1, y2] | _, _ => []
def g_Area_new1 (ds es : List D) : List D := match ds, es with | [x0, x1], [y0] => [x0, x1, y0] | _, _ => []
def g_Address_new2 (ds es : List D) : List D := match ds, es with | [x0, x1], [y0] => [x0, x1, (.bl false), (.bl false), y0] | _, _ => []
abbrev N__law_draw : List Str := ["_law_pen_here", "_law_span", "_law_digit", "_law_at", "_law_cell", "_law_mash"]
theorem sc__law_draw : FnScope N__law_draw ["_law_pen_here", "_law_span"] (defScope (top 38)) := ⟨rfl, rfl, rfl, by decide +kernel, rfl, by decide +kernel, by decide +kernel⟩
def t__law_draw (K : PySem.W.Frag) (A : Ad) (cs : List Int) : DTS :=
  (dSeq (dIfS (dTest (dOp gGe (dPenL (dVar 0)) (dVar 1))) (dSeq (dAsg (dOp gMod (dCB gInt (dCons (dPenL (dVar 0)) dNil)) (dVar 1)) (dgName 2))
    (dSeq (dPutL (dOp gDiv (dPenL (dVar 0)) (dVar 1)) (dVar 0))
    (dRet (dVar 2)))) dNext)
    (dSeq (dAsg (dPenA (dVar 0)) (dgName 3))
    (dSeq (dPutA (dOp gAdd (dVar 3) (dC (.int 1))) (dVar 0))
    (dSeq (dAsg (dOp gAdd (dOp gMul (dC (.int 47)) (dVar 3)) (dC (.int 109))) (dgName 4))
    (dSeq (dIfS (dTest (dOp gNe (dPenC cs (dVar 0)) (dLst dNil))) (dAsg (dOp gIx (dPenC cs (dVar 0)) (dOp gMod (dCB gInt (dCons (dVar 3) dNil)) (dCB gLen (dCons (dPenC cs (dVar 0)) dNil)))) (dgName 4)) dNext)
    (dSeq (dIfS (dAnd (dTest (dOp gLt (dVar 3) (dCB gLen (dCons (dPenC cs (dVar 0)) dNil)))) (dTest (dOp gGe (dVar 4) (dOp gPow (dC (.int 10)) (dC (.int 18)))))) (dSeq (dPutL (dOp gDiv (dOp gSub (dVar 4) (dOp gPow (dC (.int 10)) (dC (.int 18)))) (dVar 1)) (dVar 0))
    (dRet (dOp gMod (dCB gInt (dCons (dOp gSub (dVar 4) (dOp gPow (dC (.int 10)) (dC (.int 18)))) dNil)) (dVar 1)))) dNext)
    (dSeq (dAsg (dOp gAdd (dOp gMul (dOp gMod (dCB gInt (dCons (dVar 4) dNil)) (dC (.int 2147481997))) (dC (.int 45191))) (dOp gMul (dOp gMul (dC (.int 35407)) (dVar 3)) (dVar 3))) (dgName 5))
    (dSeq (dAsg (dOp gMod (dCB gInt (dCons (dOp gAdd (dOp gAdd (dVar 5) (dOp gMul (dC (.int 131)) (dVar 3))) (dC (.int 43))) dNil)) (dC (.int 2147482063))) (dgName 5))
    (dSeq (dAsg (dOp gMod (dCB gInt (dCons (dOp gAdd (dOp gMul (dVar 5) (dOp gAdd (dVar 5) (dC (.int 71069)))) (dOp gMul (dC (.int 11)) (dVar 3))) dNil)) (dC (.int 2147482121))) (dgName 5))
    (dRet (dOp gMod (dCB gInt (dCons (dOp gDiv (dOp gMod (dCB gInt (dCons (dOp gAdd (dOp gMul (dVar 5) (dVar 5)) (dOp gMul (dC (.int 107)) (dVar 5))) dNil)) (dC (.int 2147482223))) (dC (.int 32))) dNil)) (dVar 1))))))))))))
abbrev N__law_pick : List Str := ["_law_pen_here", "_law_menu"]
theorem sc__law_pick : FnScope N__law_pick ["_law_pen_here", "_law_menu"] (defScope (top 39)) := ⟨rfl, rfl, rfl, by decide +kernel, rfl, by decide +kernel, by decide +kernel⟩
def t__law_pick (K : PySem.W.Frag) (A : Ad) (cs : List Int) : DTS :=
  (dRet (dOp gIx (dVar 1) (dCal 2 (s__law_draw A) (dCons (dVar 0) (dCons (dCB gLen (dCons (dVar 1) dNil)) dNil)))))
abbrev N__law_corners : List Str := ["_law_pen_here", "_law_base", "_law_high", "_law_rows", "_law_turn", "_law_columns"]
theorem sc__law_corners : FnScope N__law_corners ["_law_pen_here", "_law_base"] (defScope (top 43)) := ⟨rfl, rfl, rfl, by decide +kernel, rfl, by decide +kernel, by decide +kernel⟩
def t__law_corners (K : PySem.W.Frag) (A : Ad) (cs : List Int) : DTS :=
  (dSeq (dAsg (dOp gAdd (dC (.int 1)) (dOp gMul (dCal 2 (s__law_draw A) (dCons (dVar 0) (dCons (dC (.int 3)) dNil))) (dC (.int 3)))) (dgName 2))
    (dSeq (dAsg (dLc (diRange1 (dCons (dC (.int 2)) dNil)) (dgName 4) dYes (dTup (dCons (dOp gAdd (dOp gAdd (dOp gIx (dVar 1) (dC (.int 0))) (dC (.int 1))) (dCal 2 (s__law_draw A) (dCons (dVar 0) (dCons (dVar 2) dNil)))) (dCons (dOp gEq (dCal 2 (s__law_draw A) (dCons (dVar 0) (dCons (dC (.int 3)) dNil))) (dC (.int 0))) dNil))) [4]) (dgName 3))
    (dSeq (dAsg (dLc (diRange1 (dCons (dC (.int 2)) dNil)) (dgName 4) dYes (dTup (dCons (dOp gAdd (dOp gAdd (dOp gIx (dVar 1) (dC (.int 1))) (dC (.int 1))) (dCal 2 (s__law_draw A) (dCons (dVar 0) (dCons (dVar 2) dNil)))) (dCons (dOp gEq (dCal 2 (s__law_draw A) (dCons (dVar 0) (dCons (dC (.int 3)) dNil))) (dC (.int 0))) dNil))) [4]) (dgName 5))
    (dRet (dTup (dCons (dVar 3) (dCons (dVar 5) dNil)))))))
abbrev N__law_area : List Str := ["_law_pen_here", "_law_base", "_law_sheets", "_law_rows", "_law_columns", "_law_whole"]
theorem sc__law_area : FnScope N__law_area ["_law_pen_here", "_law_base", "_law_sheets"] (defScope (top 45)) := ⟨rfl, rfl, rfl, by decide +kernel, rfl, by decide +kernel, by decide +kernel⟩
def u__law_area_3 (K : PySem.W.Frag) (A : Ad) (cs : List Int) : DTS :=
  (dRet (dTup (dCons (dVar 3) (dCons (dVar 4) (dCons (dVar 5) (dCons (dCal 2 (s__law_pick A) (dCons (dVar 0) (dCons (dVar 2) dNil))) dNil))))))
def u__law_area_2 (K : PySem.W.Frag) (A : Ad) (cs : List Int) : DTS :=
  (dSeq (dAsg (dCal 2 (s__law_pick A) (dCons (dVar 0) (dCons (dLst (dCons (dC .non) (dCons (dC .non) (dCons (dC .non) (dCons (dC (.str [99, 111, 108, 117, 109, 110, 115])) (dCons (dC (.str [114, 111, 119, 115])) dNil)))))) dNil))) (dgName 5)) (u__law_area_3 K A cs))
def t__law_area (K : PySem.W.Frag) (A : Ad) (cs : List Int) : DTS :=
  (dSeq (dAsg (dCal 2 (s__law_corners A) (dCons (dVar 0) (dCons (dVar 1) dNil))) (dgTup 2 (dgCons (dgName 3) (dgCons (dgName 4) dgNil)))) (u__law_area_2 K A cs))
abbrev N_is_integer : List Str := ["value"]
theorem sc_is_integer : FnScope N_is_integer ["value"] (defScope (top 8)) := ⟨rfl, rfl, rfl, by decide +kernel, rfl, by decide +kernel, by decide +kernel⟩
def t_is_integer (K : PySem.W.Frag) (A : Ad) (cs : List Int) : DTS :=
  (dRet (dAndV (dCB (gIsi K) (dCons (dVar 0) (dCons (dC (.ty "int")) dNil))) (dNotV (dCB (gIsi K) (dCons (dVar 0) (dCons (dC (.ty "bool")) dNil))))))
abbrev N_need_integer : List Str := ["value"]
theorem sc_need_integer : FnScope N_need_integer ["value"] (defScope (top 9)) := ⟨rfl, rfl, rfl, by decide +kernel, rfl, by decide +kernel, by decide +kernel⟩
def t_need_integer (K : PySem.W.Frag) (A : Ad) (cs : List Int) : DTS :=
  (dIfS (dNot (dTest (dCal 1 (s_is_integer A) (dCons (dVar 0) dNil)))) (dRaise A.BadValue "value" (dCons (dVar 0) dNil)) dNext)
abbrev N_need_truth : List Str := ["value"]
theorem sc_need_truth : FnScope N_need_truth ["value"] (defScope (top 10)) := ⟨rfl, rfl, rfl, by decide +kernel, rfl, by decide +kernel, by decide +kernel⟩
def t_need_truth (K : PySem.W.Frag) (A : Ad) (cs : List Int) : DTS :=
  (dIfS (dNot (dTest (dCB (gIsi K) (dCons (dVar 0) (dCons (dC (.ty "bool")) dNil))))) (dRaise A.BadValue "value" (dCons (dVar 0) dNil)) dNext)
abbrev N_is_letter : List Str := ["sign"]
theorem sc_is_letter : FnScope N_is_letter ["sign"] (defScope (top 13)) := ⟨rfl, rfl, rfl, by decide +kernel, rfl, by decide +kernel, by decide +kernel⟩
def t_is_letter (K : PySem.W.Frag) (A : Ad) (cs : List Int) : DTS :=
  (dRet (dOrV (dChain gLe gLe (dC (.str [97])) (dVar 0) (dC (.str [122]))) (dChain gLe gLe (dC (.str [65])) (dVar 0) (dC (.str [90])))))
abbrev N_is_digit : List Str := ["sign"]
theorem sc_is_digit : FnScope N_is_digit ["sign"] (defScope (top 12)) := ⟨rfl, rfl, rfl, by decide +kernel, rfl, by decide +kernel, by decide +kernel⟩
def t_is_digit (K : PySem.W.Frag) (A : Ad) (cs : List Int) : DTS :=
  (dRet (dChain gLe gLe (dC (.str [48])) (dVar 0) (dC (.str [57]))))
abbrev N_is_sheet_word : List Str := ["word", "sign"]
theorem sc_is_sheet_word : FnScope N_is_sheet_word ["word"] (defScope (top 15)) := ⟨rfl, rfl, rfl, by decide +kernel, rfl, by decide +kernel, by decide +kernel⟩
def t_is_sheet_word (K : PySem.W.Frag) (A : Ad) (cs : List Int) : DTS :=
  (dRet (dAndV (dChain gLe gLe (dC (.int 1)) (dCB gLen (dCons (dVar 0) dNil)) (dC (.int 12))) (dAndV (dCal 1 (s_is_letter A) (dCons (dOp gIx (dVar 0) (dC (.int 0))) dNil)) (dCB gAll (dCons (dLc (diSeq (dVar 0)) (dgName 1) dYes (dOrV (dCal 1 (s_is_letter A) (dCons (dVar 1) dNil)) (dCal 1 (s_is_digit A) (dCons (dVar 1) dNil))) [1]) dNil)))))
abbrev N_need_sheet_word : List Str := ["sheet"]
theorem sc_need_sheet_word : FnScope N_need_sheet_word ["sheet"] (defScope (top 20)) := ⟨rfl, rfl, rfl, by decide +kernel, rfl, by decide +kernel, by decide +kernel⟩
def t_need_sheet_word (K : PySem.W.Frag) (A : Ad) (cs : List Int) : DTS :=
  (dIfS (dAnd (dTest (dOp gNotN (dVar 0) (dC .non))) (dNot (dAnd (dTest (dCB (gIsi K) (dCons (dVar 0) (dCons (dC (.ty "str")) dNil)))) (dTest (dCal 1 (s_is_sheet_word A) (dCons (dVar 0) dNil)))))) (dRaise A.BadValue "value" (dCons (dVar 0) dNil)) dNext)
abbrev N_is_on_grid : List Str := ["row", "column"]
theorem sc_is_on_grid : FnScope N_is_on_grid ["row", "column"] (defScope (top 19)) := ⟨rfl, rfl, rfl, by decide +kernel, rfl, by decide +kernel, by decide +kernel⟩
def t_is_on_grid (K : PySem.W.Frag) (A : Ad) (cs : List Int) : DTS :=
  (dRet (dAndV (dChain gLe gLe (dC (.int 1)) (dVar 0) (dC (.int 1000000))) (dChain gLe gLe (dC (.int 1)) (dVar 1) (dC (.int 18278)))))
abbrev N_Address_init : List Str := ["self", "row", "column", "fixed_row", "fixed_column", "sheet"]
theorem sc_Address_init : FnScope N_Address_init ["self", "row", "column", "fixed_row", "fixed_column", "sheet"] (defScope (inClass (top 22) 0)) := ⟨rfl, rfl, rfl, by decide +kernel, rfl, by decide +kernel, by decide +kernel⟩
def t_Address_init (K : PySem.W.Frag) (A : Ad) (cs : List Int) : DTS :=
  (dSeq (dDrop (dCal 1 (s_need_integer A) (dCons (dVar 1) dNil)))
    (dSeq (dDrop (dCal 1 (s_need_integer A) (dCons (dVar 2) dNil)))
    (dSeq (dDrop (dCal 1 (s_need_truth A) (dCons (dVar 3) dNil)))
    (dSeq (dDrop (dCal 1 (s_need_truth A) (dCons (dVar 4) dNil)))
    (dSeq (dDrop (dCal 1 (s_need_sheet_word A) (dCons (dVar 5) dNil)))
    (dSeq (dIfS (dNot (dTest (dCal 2 (s_is_on_grid A) (dCons (dVar 1) (dCons (dVar 2) dNil))))) (dRaise2 A.OffGrid "row" "column" (dCons (dVar 1) (dCons (dVar 2) dNil))) dNext)
    (dSeq (dAsg (dTup (dCons (dVar 1) (dCons (dVar 2) dNil))) (dgTup 2 (dgCons (dgFld [A.Address] "row" (dVar 0)) (dgCons (dgFld [A.Address] "column" (dVar 0)) dgNil))))
    (dSeq (dAsg (dTup (dCons (dVar 3) (dCons (dVar 4) dNil))) (dgTup 2 (dgCons (dgFld [A.Address] "fixed_row" (dVar 0)) (dgCons (dgFld [A.Address] "fixed_column" (dVar 0)) dgNil))))
    (dAsg (dVar 5) (dgFld [A.Address, A.Area] "sheet" (dVar 0)))))))))))
abbrev N_need_address : List Str := ["value"]
theorem sc_need_address : FnScope N_need_address ["value"] (defScope (top 23)) := ⟨rfl, rfl, rfl, by decide +kernel, rfl, by decide +kernel, by decide +kernel⟩
def t_need_address (K : PySem.W.Frag) (A : Ad) (cs : List Int) : DTS :=
  (dIfS (dNot (dTest (dCB (gIsi K) (dCons (dVar 0) (dCons (dC (.ref A.Address)) dNil))))) (dRaise A.BadValue "value" (dCons (dVar 0) dNil)) dNext)
abbrev N_in_order : List Str := ["one", "other"]
theorem sc_in_order : FnScope N_in_order ["one", "other"] (defScope (top 27)) := ⟨rfl, rfl, rfl, by decide +kernel, rfl, by decide +kernel, by decide +kernel⟩
def t_in_order (K : PySem.W.Frag) (A : Ad) (cs : List Int) : DTS :=
  (dSeq (dIfS (dTest (dOp gLeP (dTup (dCons (dOp gIx (dVar 0) (dC (.int 0))) (dCons (dNotV (dOp gIx (dVar 0) (dC (.int 1)))) dNil))) (dTup (dCons (dOp gIx (dVar 1) (dC (.int 0))) (dCons (dNotV (dOp gIx (dVar 1) (dC (.int 1)))) dNil))))) (dRet (dTup (dCons (dVar 0) (dCons (dVar 1) dNil)))) dNext)
    (dRet (dTup (dCons (dVar 1) (dCons (dVar 0) dNil)))))
abbrev N_normal_rows : List Str := ["first", "last", "whole"]
theorem sc_normal_rows : FnScope N_normal_rows ["first", "last", "whole"] (defScope (top 28)) := ⟨rfl, rfl, rfl, by decide +kernel, rfl, by decide +kernel, by decide +kernel⟩
def t_normal_rows (K : PySem.W.Frag) (A : Ad) (cs : List Int) : DTS :=
  (dSeq (dIfS (dTest (dOp gEq (dVar 2) (dC (.str [99, 111, 108, 117, 109, 110, 115])))) (dRet (dTup (dCons (dTup (dCons (dC (.int 1)) (dCons (dC (.bl false)) dNil))) (dCons (dTup (dCons (dC (.int 1000000)) (dCons (dC (.bl false)) dNil))) dNil)))) dNext)
    (dRet (dCal 2 (s_in_order A) (dCons (dTup (dCons (dFld [A.Address] "row" (dVar 0)) (dCons (dFld [A.Address] "fixed_row" (dVar 0)) dNil))) (dCons (dTup (dCons (dFld [A.Address] "row" (dVar 1)) (dCons (dFld [A.Address] "fixed_row" (dVar 1)) dNil))) dNil)))))
abbrev N_normal_columns : List Str := ["first", "last", "whole"]
theorem sc_normal_columns : FnScope N_normal_columns ["first", "last", "whole"] (defScope (top 29)) := ⟨rfl, rfl, rfl, by decide +kernel, rfl, by decide +kernel, by decide +kernel⟩
def t_normal_columns (K : PySem.W.Frag) (A : Ad) (cs : List Int) : DTS :=
  (dSeq (dIfS (dTest (dOp gEq (dVar 2) (dC (.str [114, 111, 119, 115])))) (dRet (dTup (dCons (dTup (dCons (dC (.int 1)) (dCons (dC (.bl false)) dNil))) (dCons (dTup (dCons (dC (.int 18278)) (dCons (dC (.bl false)) dNil))) dNil)))) dNext)
    (dRet (dCal 2 (s_in_order A) (dCons (dTup (dCons (dFld [A.Address] "column" (dVar 0)) (dCons (dFld [A.Address] "fixed_column" (dVar 0)) dNil))) (dCons (dTup (dCons (dFld [A.Address] "column" (dVar 1)) (dCons (dFld [A.Address] "fixed_column" (dVar 1)) dNil))) dNil)))))
abbrev N_same_sheets : List Str := ["one", "other"]
theorem sc_same_sheets : FnScope N_same_sheets ["one", "other"] (defScope (top 21)) := ⟨rfl, rfl, rfl, by decide +kernel, rfl, by decide +kernel, by decide +kernel⟩
def t_same_sheets (K : PySem.W.Frag) (A : Ad) (cs : List Int) : DTS :=
  (dSeq (dIfS (dOr (dTest (dOp gIsN (dVar 0) (dC .non))) (dTest (dOp gIsN (dVar 1) (dC .non)))) (dRet (dAndV (dOp gIsN (dVar 0) (dC .non)) (dOp gIsN (dVar 1) (dC .non)))) dNext)
    (dRet (dOp gEq (dM0 gLower (dVar 0)) (dM0 gLower (dVar 1)))))
abbrev N_Area_init : List Str := ["self", "first", "last", "whole", "top", "bottom", "left", "right", "sheet"]
theorem sc_Area_init : FnScope N_Area_init ["self", "first", "last", "whole"] (defScope (inClass (top 30) 0)) := ⟨rfl, rfl, rfl, by decide +kernel, rfl, by decide +kernel, by decide +kernel⟩
def u_Area_init_12 (K : PySem.W.Frag) (A : Ad) (cs : List Int) : DTS :=
  (dAsg (dOp gAdd (dOp gSub (dOp gIx (dVar 7) (dC (.int 0))) (dOp gIx (dVar 6) (dC (.int 0)))) (dC (.int 1))) (dgFld [A.Area] "width" (dVar 0)))
def u_Area_init_11 (K : PySem.W.Frag) (A : Ad) (cs : List Int) : DTS :=
  (dSeq (dAsg (dOp gAdd (dOp gSub (dOp gIx (dVar 5) (dC (.int 0))) (dOp gIx (dVar 4) (dC (.int 0)))) (dC (.int 1))) (dgFld [A.Area] "height" (dVar 0))) (u_Area_init_12 K A cs))
def u_Area_init_10 (K : PySem.W.Frag) (A : Ad) (cs : List Int) : DTS :=
  (dSeq (dAsg (dTup (dCons (dVar 3) (dCons (dVar 8) dNil))) (dgTup 2 (dgCons (dgFld [A.Area] "whole" (dVar 0)) (dgCons (dgFld [A.Address, A.Area] "sheet" (dVar 0)) dgNil)))) (u_Area_init_11 K A cs))
def u_Area_init_9 (K : PySem.W.Frag) (A : Ad) (cs : List Int) : DTS :=
  (dSeq (dAsg (dNew 2 ["fixed_row", "fixed_column", "sheet"] g_Address_new0 (s_Address A) (dCons (dOp gIx (dVar 5) (dC (.int 0))) (dCons (dOp gIx (dVar 7) (dC (.int 0))) dNil)) (dCons (dOp gIx (dVar 5) (dC (.int 1))) (dCons (dOp gIx (dVar 7) (dC (.int 1))) (dCons (dVar 8) dNil)))) (dgFld [A.Area] "last" (dVar 0))) (u_Area_init_10 K A cs))
def u_Area_init_8 (K : PySem.W.Frag) (A : Ad) (cs : List Int) : DTS :=
  (dSeq (dAsg (dNew 2 ["fixed_row", "fixed_column", "sheet"] g_Address_new0 (s_Address A) (dCons (dOp gIx (dVar 4) (dC (.int 0))) (dCons (dOp gIx (dVar 6) (dC (.int 0))) dNil)) (dCons (dOp gIx (dVar 4) (dC (.int 1))) (dCons (dOp gIx (dVar 6) (dC (.int 1))) (dCons (dVar 8) dNil)))) (dgFld [A.Area] "first" (dVar 0))) (u_Area_init_9 K A cs))
def u_Area_init_7 (K : PySem.W.Frag) (A : Ad) (cs : List Int) : DTS :=
  (dSeq (dAsg (dFld [A.Address, A.Area] "sheet" (dVar 1)) (dgName 8)) (u_Area_init_8 K A cs))
def u_Area_init_6 (K : PySem.W.Frag) (A : Ad) (cs : List Int) : DTS :=
  (dSeq (dAsg (dCal 3 (s_normal_columns A) (dCons (dVar 1) (dCons (dVar 2) (dCons (dVar 3) dNil)))) (dgTup 2 (dgCons (dgName 6) (dgCons (dgName 7) dgNil)))) (u_Area_init_7 K A cs))
def u_Area_init_5 (K : PySem.W.Frag) (A : Ad) (cs : List Int) : DTS :=
  (dSeq (dAsg (dCal 3 (s_normal_rows A) (dCons (dVar 1) (dCons (dVar 2) (dCons (dVar 3) dNil)))) (dgTup 2 (dgCons (dgName 4) (dgCons (dgName 5) dgNil)))) (u_Area_init_6 K A cs))
def u_Area_init_4 (K : PySem.W.Frag) (A : Ad) (cs : List Int) : DTS :=
  (dSeq (dIfS (dAnd (dTest (dOp gNotN (dVar 3) (dC .non))) (dAnd (dTest (dOp gNe (dVar 3) (dC (.str [99, 111, 108, 117, 109, 110, 115])))) (dTest (dOp gNe (dVar 3) (dC (.str [114, 111, 119, 115])))))) (dRaise A.BadValue "value" (dCons (dVar 3) dNil)) dNext) (u_Area_init_5 K A cs))
def u_Area_init_3 (K : PySem.W.Frag) (A : Ad) (cs : List Int) : DTS :=
  (dSeq (dIfS (dAnd (dTest (dOp gNotN (dFld [A.Address, A.Area] "sheet" (dVar 2)) (dC .non))) (dNot (dTest (dCal 2 (s_same_sheets A) (dCons (dFld [A.Address, A.Area] "sheet" (dVar 1)) (dCons (dFld [A.Address, A.Area] "sheet" (dVar 2)) dNil)))))) (dRaise A.BadValue "value" (dCons (dVar 2) dNil)) dNext) (u_Area_init_4 K A cs))
def u_Area_init_2 (K : PySem.W.Frag) (A : Ad) (cs : List Int) : DTS :=
  (dSeq (dDrop (dCal 1 (s_need_address A) (dCons (dVar 2) dNil))) (u_Area_init_3 K A cs))
def t_Area_init (K : PySem.W.Frag) (A : Ad) (cs : List Int) : DTS :=
  (dSeq (dDrop (dCal 1 (s_need_address A) (dCons (dVar 1) dNil))) (u_Area_init_2 K A cs))
abbrev N__law_in_order : List Str := ["_law_pairs"]
theorem sc__law_in_order : FnScope N__law_in_order ["_law_pairs"] (defScope (top 44)) := ⟨rfl, rfl, rfl, by decide +kernel, rfl, by decide +kernel, by decide +kernel⟩
def t__law_in_order (K : PySem.W.Frag) (A : Ad) (cs : List Int) : DTS :=
  (dRet (dSortK (dVar 0) (dTup (dCons (dOp gIx (dVar 0) (dC (.int 0))) (dCons (dNotV (dOp gIx (dVar 0) (dC (.int 1)))) dNil)))))
abbrev N__law_normal : List Str := ["_law_area_here", "_law_rows", "_law_columns", "_law_whole", "_law_sheet"]
theorem sc__law_normal : FnScope N__law_normal ["_law_area_here"] (defScope (top 46)) := ⟨rfl, rfl, rfl, by decide +kernel, rfl, by decide +kernel, by decide +kernel⟩
def t__law_normal (K : PySem.W.Frag) (A : Ad) (cs : List Int) : DTS :=
  (dSeq (dAsg (dVar 0) (dgTup 4 (dgCons (dgName 1) (dgCons (dgName 2) (dgCons (dgName 3) (dgCons (dgName 4) dgNil))))))
    (dSeq (dPar 1 2 (dCons (dCal 1 (s__law_in_order A) (dCons (dVar 1) dNil)) (dCons (dCal 1 (s__law_in_order A) (dCons (dVar 2) dNil)) dNil)))
    (dSeq (dIfS (dTest (dOp gEq (dVar 3) (dC (.str [99, 111, 108, 117, 109, 110, 115])))) (dAsg (dLst (dCons (dTup (dCons (dC (.int 1)) (dCons (dC (.bl false)) dNil))) (dCons (dTup (dCons (dC (.int 1000000)) (dCons (dC (.bl false)) dNil))) dNil))) (dgName 1)) dNext)
    (dSeq (dIfS (dTest (dOp gEq (dVar 3) (dC (.str [114, 111, 119, 115])))) (dAsg (dLst (dCons (dTup (dCons (dC (.int 1)) (dCons (dC (.bl false)) dNil))) (dCons (dTup (dCons (dC (.int 18278)) (dCons (dC (.bl false)) dNil))) dNil))) (dgName 2)) dNext)
    (dRet (dTup (dCons (dVar 1) (dCons (dVar 2) (dCons (dVar 3) (dCons (dVar 4) dNil))))))))))
abbrev N__law_is : List Str := ["_law_address", "_law_place", "_law_fields"]
theorem sc__law_is : FnScope N__law_is ["_law_address", "_law_place"] (defScope (top 42)) := ⟨rfl, rfl, rfl, by decide +kernel, rfl, by decide +kernel, by decide +kernel⟩
def t__law_is (K : PySem.W.Frag) (A : Ad) (cs : List Int) : DTS :=
  (dSeq (dIfS (dOr (dNot (dTest (dCB (gIsi K) (dCons (dVar 0) (dCons (dC (.ref A.Address)) dNil))))) (dOr (dTest (dCB (gIsi K) (dCons (dFld [A.Address] "row" (dVar 0)) (dCons (dC (.ty "bool")) dNil)))) (dTest (dCB (gIsi K) (dCons (dFld [A.Address] "column" (dVar 0)) (dCons (dC (.ty "bool")) dNil)))))) (dRet (dC (.bl false))) dNext)
    (dSeq (dIfS (dOr (dNot (dTest (dCB (gIsi K) (dCons (dFld [A.Address] "fixed_row" (dVar 0)) (dCons (dC (.ty "bool")) dNil))))) (dNot (dTest (dCB (gIsi K) (dCons (dFld [A.Address] "fixed_column" (dVar 0)) (dCons (dC (.ty "bool")) dNil)))))) (dRet (dC (.bl false))) dNext)
    (dSeq (dAsg (dTup (dCons (dFld [A.Address] "row" (dVar 0)) (dCons (dFld [A.Address] "column" (dVar 0)) (dCons (dFld [A.Address] "fixed_row" (dVar 0)) (dCons (dFld [A.Address] "fixed_column" (dVar 0)) (dCons (dFld [A.Address, A.Area] "sheet" (dVar 0)) dNil)))))) (dgName 2))
    (dRet (dOp gEq (dVar 2) (dVar 1))))))
abbrev N__law_corner : List Str := ["_law_area_here", "_law_at", "_law_rows", "_law_columns", "_law_whole", "_law_sheet"]
theorem sc__law_corner : FnScope N__law_corner ["_law_area_here", "_law_at"] (defScope (top 47)) := ⟨rfl, rfl, rfl, by decide +kernel, rfl, by decide +kernel, by decide +kernel⟩
def t__law_corner (K : PySem.W.Frag) (A : Ad) (cs : List Int) : DTS :=
  (dSeq (dAsg (dVar 0) (dgTup 4 (dgCons (dgName 2) (dgCons (dgName 3) (dgCons (dgName 4) (dgCons (dgName 5) dgNil))))))
    (dRet (dTup (dCons (dOp gIx (dOp gIx (dVar 2) (dVar 1)) (dC (.int 0))) (dCons (dOp gIx (dOp gIx (dVar 3) (dVar 1)) (dC (.int 0))) (dCons (dOp gIx (dOp gIx (dVar 2) (dVar 1)) (dC (.int 1))) (dCons (dOp gIx (dOp gIx (dVar 3) (dVar 1)) (dC (.int 1))) (dCons (dVar 5) dNil))))))))
abbrev N__law_is_area : List Str := ["_law_found", "_law_area_here", "_law_height", "_law_width"]
theorem sc__law_is_area : FnScope N__law_is_area ["_law_found", "_law_area_here"] (defScope (top 49)) := ⟨rfl, rfl, rfl, by decide +kernel, rfl, by decide +kernel, by decide +kernel⟩
def t__law_is_area (K : PySem.W.Frag) (A : Ad) (cs : List Int) : DTS :=
  (dSeq (dIfS (dOr (dNot (dTest (dCB (gIsi K) (dCons (dVar 0) (dCons (dC (.ref A.Area)) dNil))))) (dOr (dTest (dOp gNe (dFld [A.Area] "whole" (dVar 0)) (dOp gIx (dVar 1) (dC (.int 2))))) (dTest (dOp gNe (dFld [A.Address, A.Area] "sheet" (dVar 0)) (dOp gIx (dVar 1) (dC (.int 3))))))) (dRet (dC (.bl false))) dNext)
    (dSeq (dIfS (dOr (dNot (dTest (dCal 2 (s__law_is A) (dCons (dFld [A.Area] "first" (dVar 0)) (dCons (dCal 2 (s__law_corner A) (dCons (dVar 1) (dCons (dC (.int 0)) dNil))) dNil))))) (dNot (dTest (dCal 2 (s__law_is A) (dCons (dFld [A.Area] "last" (dVar 0)) (dCons (dCal 2 (s__law_corner A) (dCons (dVar 1) (dCons (dC (.int 1)) dNil))) dNil)))))) (dRet (dC (.bl false))) dNext)
    (dSeq (dPar 2 3 (dCons (dOp gAdd (dOp gSub (dOp gIx (dOp gIx (dOp gIx (dVar 1) (dC (.int 0))) (dC (.int 1))) (dC (.int 0))) (dOp gIx (dOp gIx (dOp gIx (dVar 1) (dC (.int 0))) (dC (.int 0))) (dC (.int 0)))) (dC (.int 1))) (dCons (dOp gAdd (dOp gSub (dOp gIx (dOp gIx (dOp gIx (dVar 1) (dC (.int 1))) (dC (.int 1))) (dC (.int 0))) (dOp gIx (dOp gIx (dOp gIx (dVar 1) (dC (.int 1))) (dC (.int 0))) (dC (.int 0)))) (dC (.int 1))) dNil)))
    (dRet (dOp gEq (dTup (dCons (dFld [A.Area] "height" (dVar 0)) (dCons (dFld [A.Area] "width" (dVar 0)) dNil))) (dTup (dCons (dVar 2) (dCons (dVar 3) dNil))))))))
abbrev N__law_made : List Str := ["_law_place"]
theorem sc__law_made : FnScope N__law_made ["_law_place"] (defScope (top 41)) := ⟨rfl, rfl, rfl, by decide +kernel, rfl, by decide +kernel, by decide +kernel⟩
def t__law_made (K : PySem.W.Frag) (A : Ad) (cs : List Int) : DTS :=
  (dRet (dNew 2 ["fixed_row", "fixed_column", "sheet"] g_Address_new0 (s_Address A) (dCons (dOp gIx (dVar 0) (dC (.int 0))) (dCons (dOp gIx (dVar 0) (dC (.int 1))) dNil)) (dCons (dOp gIx (dVar 0) (dC (.int 2))) (dCons (dOp gIx (dVar 0) (dC (.int 3))) (dCons (dOp gIx (dVar 0) (dC (.int 4))) dNil)))))
abbrev N__law_told : List Str := ["_law_call", "_law_told_here", "e"]
theorem sc_law_told : FnScope N__law_told ["_law_call"] (defScope (top 40)) := ⟨rfl, rfl, rfl, by decide +kernel, rfl, by decide +kernel, by decide +kernel⟩
def t__law_told (K : PySem.W.Frag) (A : Ad) (f c : Addr) (q : Str) (σ : List (Option V)) (δ : List (Option D)) (fb : DTE) : DTS :=
  (dSeq (dAsg (dTup (dCons (dC (.str [110, 111, 116, 104, 105, 110, 103])) dNil)) (dgName 1))
    (dSeq (dTry K (dAsg (dTup (dCons (dC (.str [116, 111, 108, 100])) (dCons (dAct 0 f c q σ δ fb) dNil))) (dgName 1)) [(.ref A.BadValue, 2, fun a cls d => (dAsg (dTup (dCons (dC (.str [66, 97, 100, 86, 97, 108, 117, 101])) (dCons (dXf a cls d A.BadValue "value" (dVar 2)) dNil))) (dgName 1))), (.ref A.NotAName, 2, fun a cls d => (dAsg (dTup (dCons (dC (.str [78, 111, 116, 65, 78, 97, 109, 101])) (dCons (dXf a cls d A.NotAName "name" (dVar 2)) dNil))) (dgName 1))), (.ref A.OffGrid, 2, fun a cls d => (dAsg (dTup (dCons (dC (.str [79, 102, 102, 71, 114, 105, 100])) (dCons (dXf a cls d A.OffGrid "row" (dVar 2)) (dCons (dXf a cls d A.OffGrid "column" (dVar 2)) dNil)))) (dgName 1))), (.ref A.TooMany, 2, fun a cls d => (dAsg (dTup (dCons (dC (.str [84, 111, 111, 77, 97, 110, 121])) (dCons (dXf a cls d A.TooMany "most" (dVar 2)) dNil))) (dgName 1)))])
    (dRet (dVar 1))))
abbrev N__law_area_made : List Str := ["_law_area_here"]
theorem sc__law_area_made : FnScope N__law_area_made ["_law_area_here"] (defScope (top 48)) := ⟨rfl, rfl, rfl, by decide +kernel, rfl, by decide +kernel, by decide +kernel⟩
def t__law_area_made (K : PySem.W.Frag) (A : Ad) (cs : List Int) : DTS :=
  (dRet (dNew 2 ["whole"] g_Area_new1 (s_Area A) (dCons (dCal 1 (s__law_made A) (dCons (dCal 2 (s__law_corner A) (dCons (dVar 0) (dCons (dC (.int 0)) dNil))) dNil)) (dCons (dCal 1 (s__law_made A) (dCons (dCal 2 (s__law_corner A) (dCons (dVar 0) (dCons (dC (.int 1)) dNil))) dNil)) dNil)) (dCons (dOp gIx (dVar 0) (dC (.int 2))) dNil)))
abbrev N_Address_eq : List Str := ["self", "other"]
theorem sc_Address_eq : FnScope N_Address_eq ["self", "other"] (defScope (inClass (top 22) 1)) := ⟨rfl, rfl, rfl, by decide +kernel, rfl, by decide +kernel, by decide +kernel⟩
def t_Address_eq (K : PySem.W.Frag) (A : Ad) (cs : List Int) : DTS :=
  (dSeq (dIfS (dOr (dNot (dTest (dCB (gIsi K) (dCons (dVar 1) (dCons (dC (.ref A.Address)) dNil))))) (dOr (dTest (dOp gNe (dFld [A.Address] "row" (dVar 0)) (dFld [A.Address] "row" (dVar 1)))) (dTest (dOp gNe (dFld [A.Address] "column" (dVar 0)) (dFld [A.Address] "column" (dVar 1)))))) (dRet (dC (.bl false))) dNext)
    (dSeq (dIfS (dOr (dTest (dOp gNe (dFld [A.Address] "fixed_row" (dVar 0)) (dFld [A.Address] "fixed_row" (dVar 1)))) (dTest (dOp gNe (dFld [A.Address] "fixed_column" (dVar 0)) (dFld [A.Address] "fixed_column" (dVar 1))))) (dRet (dC (.bl false))) dNext)
    (dRet (dCal 2 (s_same_sheets A) (dCons (dFld [A.Address, A.Area] "sheet" (dVar 0)) (dCons (dFld [A.Address, A.Area] "sheet" (dVar 1)) dNil))))))
abbrev N_Area_eq : List Str := ["self", "other"]
theorem sc_Area_eq : FnScope N_Area_eq ["self", "other"] (defScope (inClass (top 30) 1)) := ⟨rfl, rfl, rfl, by decide +kernel, rfl, by decide +kernel, by decide +kernel⟩
def t_Area_eq (K : PySem.W.Frag) (A : Ad) (cs : List Int) : DTS :=
  (dSeq (dIfS (dOr (dNot (dTest (dCB (gIsi K) (dCons (dVar 1) (dCons (dC (.ref A.Area)) dNil))))) (dTest (dOp (gEqO K A.Address (s_Address_eq A) true) (dFld [A.Area] "whole" (dVar 0)) (dFld [A.Area] "whole" (dVar 1))))) (dRet (dC (.bl false))) dNext)
    (dRet (dAndV (dOp (gEqO K A.Address (s_Address_eq A) false) (dFld [A.Area] "first" (dVar 0)) (dFld [A.Area] "first" (dVar 1))) (dOp (gEqO K A.Address (s_Address_eq A) false) (dFld [A.Area] "last" (dVar 0)) (dFld [A.Area] "last" (dVar 1))))))
abbrev N__law_made_right : List Str := ["_law_pen_here", "_law_area_here", "_law_rows", "_law_columns", "_law_whole", "_law_sheet", "_law_normal_here", "_law_first", "_law_other", "_law_last", "_law_made_here", "_law_wrong", "_law_odd"]
theorem sc__law_made_right : FnScope N__law_made_right ["_law_pen_here", "_law_area_here"] (defScope (top 55)) := ⟨rfl, rfl, rfl, by decide +kernel, rfl, by decide +kernel, by decide +kernel⟩
def u__law_made_right_12 (K : PySem.W.Frag) (A : Ad) (cs : List Int) : DTS :=
  (dRet (dOp (gEqO K A.Area (s_Area_eq A) false) (dLam (s_law_told A) (dNew 2 ["whole"] g_Area_new1 (s_Area A) (dCons (dCal 1 (s__law_made A) (dCons (dVar 7) dNil)) (dCons (dC (.str [65, 49])) dNil)) (dCons (dVar 12) dNil))) (dTup (dCons (dC (.str [66, 97, 100, 86, 97, 108, 117, 101])) (dCons (dC (.str [65, 49])) dNil)))))
def u__law_made_right_11 (K : PySem.W.Frag) (A : Ad) (cs : List Int) : DTS :=
  (dSeq (dIfS (dTest (dOp (gNeI K A.Address (s_Address_eq A)) (dLam (s_law_told A) (dNew 2 ["whole"] g_Area_new1 (s_Area A) (dCons (dCal 1 (s__law_made A) (dCons (dVar 7) dNil)) (dCons (dCal 1 (s__law_made A) (dCons (dVar 9) dNil)) dNil)) (dCons (dVar 12) dNil))) (dTup (dCons (dC (.str [66, 97, 100, 86, 97, 108, 117, 101])) (dCons (dVar 12) dNil))))) (dRet (dC (.bl false))) dNext) (u__law_made_right_12 K A cs))
def u__law_made_right_10 (K : PySem.W.Frag) (A : Ad) (cs : List Int) : DTS :=
  (dSeq (dIfS (dTest (dOp (gNeI K A.Address (s_Address_eq A)) (dLam (s_law_told A) (dNew 2 ["whole"] g_Area_new1 (s_Area A) (dCons (dCal 1 (s__law_made A) (dCons (dVar 7) dNil)) (dCons (dVar 11) dNil)) (dCons (dVar 12) dNil))) (dTup (dCons (dC (.str [66, 97, 100, 86, 97, 108, 117, 101])) (dCons (dVar 11) dNil))))) (dRet (dC (.bl false))) dNext) (u__law_made_right_11 K A cs))
def u__law_made_right_9 (K : PySem.W.Frag) (A : Ad) (cs : List Int) : DTS :=
  (dSeq (dAsg (dTup (dCons (dCal 1 (s__law_made A) (dCons (dOp gAdd (dSl (dVar 9) dNoPart (dPart (dC (.int 4)))) (dTup (dCons (dC (.str [84, 104, 105, 114, 100])) dNil))) dNil)) (dCons (dCal 2 (s__law_pick A) (dCons (dVar 0) (dCons (dLst (dCons (dC (.str [])) (dCons (dC (.str [99, 111, 108, 117, 109, 110])) (dCons (dC (.int 1)) (dCons (dC (.bl true)) (dCons (dLst (dCons (dC (.str [114, 111, 119, 115])) dNil)) dNil)))))) dNil))) dNil))) (dgTup 2 (dgCons (dgName 11) (dgCons (dgName 12) dgNil)))) (u__law_made_right_10 K A cs))
def u__law_made_right_8 (K : PySem.W.Frag) (A : Ad) (cs : List Int) : DTS :=
  (dSeq (dIfS (dOr (dNot (dTest (dCal 2 (s__law_is_area A) (dCons (dVar 10) (dCons (dVar 6) dNil))))) (dTest (dOp (gEqO K A.Area (s_Area_eq A) true) (dVar 10) (dCal 1 (s__law_area_made A) (dCons (dVar 1) dNil))))) (dRet (dC (.bl false))) dNext) (u__law_made_right_9 K A cs))
def u__law_made_right_7 (K : PySem.W.Frag) (A : Ad) (cs : List Int) : DTS :=
  (dSeq (dAsg (dNew 2 ["whole"] g_Area_new1 (s_Area A) (dCons (dCal 1 (s__law_made A) (dCons (dVar 7) dNil)) (dCons (dCal 1 (s__law_made A) (dCons (dVar 9) dNil)) dNil)) (dCons (dVar 4) dNil)) (dgName 10)) (u__law_made_right_8 K A cs))
def u__law_made_right_6 (K : PySem.W.Frag) (A : Ad) (cs : List Int) : DTS :=
  (dSeq (dAsg (dTup (dCons (dOp gIx (dOp gIx (dVar 2) (dC (.int 0))) (dC (.int 0))) (dCons (dOp gIx (dOp gIx (dVar 3) (dC (.int 1))) (dC (.int 0))) (dCons (dOp gIx (dOp gIx (dVar 2) (dC (.int 0))) (dC (.int 1))) (dCons (dOp gIx (dOp gIx (dVar 3) (dC (.int 1))) (dC (.int 1))) (dCons (dVar 8) dNil)))))) (dgName 9)) (u__law_made_right_7 K A cs))
def u__law_made_right_5 (K : PySem.W.Frag) (A : Ad) (cs : List Int) : DTS :=
  (dSeq (dAsg (dIf (dTest (dOp gIsN (dVar 5) (dC .non))) (dC .non) (dCal 2 (s__law_pick A) (dCons (dVar 0) (dCons (dLst (dCons (dM0 gLower (dVar 5)) (dCons (dM0 gUpper (dVar 5)) (dCons (dC .non) dNil)))) dNil)))) (dgName 8)) (u__law_made_right_6 K A cs))
def u__law_made_right_4 (K : PySem.W.Frag) (A : Ad) (cs : List Int) : DTS :=
  (dSeq (dAsg (dTup (dCons (dOp gIx (dOp gIx (dVar 2) (dC (.int 1))) (dC (.int 0))) (dCons (dOp gIx (dOp gIx (dVar 3) (dC (.int 0))) (dC (.int 0))) (dCons (dOp gIx (dOp gIx (dVar 2) (dC (.int 1))) (dC (.int 1))) (dCons (dOp gIx (dOp gIx (dVar 3) (dC (.int 0))) (dC (.int 1))) (dCons (dVar 5) dNil)))))) (dgName 7)) (u__law_made_right_5 K A cs))
def u__law_made_right_3 (K : PySem.W.Frag) (A : Ad) (cs : List Int) : DTS :=
  (dSeq (dIfS (dNot (dTest (dCal 2 (s__law_is_area A) (dCons (dCal 1 (s__law_area_made A) (dCons (dVar 1) dNil)) (dCons (dVar 6) dNil))))) (dRet (dC (.bl false))) dNext) (u__law_made_right_4 K A cs))
def u__law_made_right_2 (K : PySem.W.Frag) (A : Ad) (cs : List Int) : DTS :=
  (dSeq (dAsg (dCal 1 (s__law_normal A) (dCons (dVar 1) dNil)) (dgName 6)) (u__law_made_right_3 K A cs))
def t__law_made_right (K : PySem.W.Frag) (A : Ad) (cs : List Int) : DTS :=
  (dSeq (dAsg (dVar 1) (dgTup 4 (dgCons (dgName 2) (dgCons (dgName 3) (dgCons (dgName 4) (dgCons (dgName 5) dgNil)))))) (u__law_made_right_2 K A cs))
abbrev N_need_area : List Str := ["value"]
theorem sc_need_area : FnScope N_need_area ["value"] (defScope (top 31)) := ⟨rfl, rfl, rfl, by decide +kernel, rfl, by decide +kernel, by decide +kernel⟩
def t_need_area (K : PySem.W.Frag) (A : Ad) (cs : List Int) : DTS :=
  (dIfS (dNot (dTest (dCB (gIsi K) (dCons (dVar 0) (dCons (dC (.ref A.Area)) dNil))))) (dRaise A.BadValue "value" (dCons (dVar 0) dNil)) dNext)
abbrev N_plain_area : List Str := ["top", "left", "bottom", "right", "sheet", "whole"]
theorem sc_plain_area : FnScope N_plain_area ["top", "left", "bottom", "right", "sheet", "whole"] (defScope (top 26)) := ⟨rfl, rfl, rfl, by decide +kernel, rfl, by decide +kernel, by decide +kernel⟩
def t_plain_area (K : PySem.W.Frag) (A : Ad) (cs : List Int) : DTS :=
  (dRet (dNew 2 ["whole"] g_Area_new1 (s_Area A) (dCons (dNew 2 ["sheet"] g_Address_new2 (s_Address A) (dCons (dVar 0) (dCons (dVar 1) dNil)) (dCons (dVar 4) dNil)) (dCons (dNew 2 ["sheet"] g_Address_new2 (s_Address A) (dCons (dVar 2) (dCons (dVar 3) dNil)) (dCons (dVar 4) dNil)) dNil)) (dCons (dVar 5) dNil)))
abbrev N_may_meet : List Str := ["one", "other"]
theorem sc_may_meet : FnScope N_may_meet ["one", "other"] (defScope (top 32)) := ⟨rfl, rfl, rfl, by decide +kernel, rfl, by decide +kernel, by decide +kernel⟩
def t_may_meet (K : PySem.W.Frag) (A : Ad) (cs : List Int) : DTS :=
  (dRet (dOrV (dOp gIsN (dVar 0) (dC .non)) (dOrV (dOp gIsN (dVar 1) (dC .non)) (dCal 2 (s_same_sheets A) (dCons (dVar 0) (dCons (dVar 1) dNil))))))
abbrev N_common_area : List Str := ["one", "other", "top", "bottom", "left", "right", "sheet"]
theorem sc_common_area : FnScope N_common_area ["one", "other"] (defScope (top 33)) := ⟨rfl, rfl, rfl, by decide +kernel, rfl, by decide +kernel, by decide +kernel⟩
def u_common_area_5 (K : PySem.W.Frag) (A : Ad) (cs : List Int) : DTS :=
  (dRet (dCal 6 (s_plain_area A) (dCons (dVar 2) (dCons (dVar 4) (dCons (dVar 3) (dCons (dVar 5) (dCons (dVar 6) (dCons (dIf (dTest (dOp gEq (dFld [A.Area] "whole" (dVar 0)) (dFld [A.Area] "whole" (dVar 1)))) (dFld [A.Area] "whole" (dVar 0)) (dC .non)) dNil))))))))
def u_common_area_4 (K : PySem.W.Frag) (A : Ad) (cs : List Int) : DTS :=
  (dSeq (dAsg (dIf (dTest (dOp gNotN (dFld [A.Address, A.Area] "sheet" (dVar 0)) (dC .non))) (dFld [A.Address, A.Area] "sheet" (dVar 0)) (dFld [A.Address, A.Area] "sheet" (dVar 1))) (dgName 6)) (u_common_area_5 K A cs))
def u_common_area_3 (K : PySem.W.Frag) (A : Ad) (cs : List Int) : DTS :=
  (dSeq (dIfS (dOr (dTest (dOp gGt (dVar 2) (dVar 3))) (dOr (dTest (dOp gGt (dVar 4) (dVar 5))) (dNot (dTest (dCal 2 (s_may_meet A) (dCons (dFld [A.Address, A.Area] "sheet" (dVar 0)) (dCons (dFld [A.Address, A.Area] "sheet" (dVar 1)) dNil))))))) (dRet (dC .non)) dNext) (u_common_area_4 K A cs))
def u_common_area_2 (K : PySem.W.Frag) (A : Ad) (cs : List Int) : DTS :=
  (dSeq (dPar 4 5 (dCons (dCB gMax (dCons (dFld [A.Address] "column" (dFld [A.Area] "first" (dVar 0))) (dCons (dFld [A.Address] "column" (dFld [A.Area] "first" (dVar 1))) dNil))) (dCons (dCB gMin (dCons (dFld [A.Address] "column" (dFld [A.Area] "last" (dVar 0))) (dCons (dFld [A.Address] "column" (dFld [A.Area] "last" (dVar 1))) dNil))) dNil))) (u_common_area_3 K A cs))
def t_common_area (K : PySem.W.Frag) (A : Ad) (cs : List Int) : DTS :=
  (dSeq (dPar 2 3 (dCons (dCB gMax (dCons (dFld [A.Address] "row" (dFld [A.Area] "first" (dVar 0))) (dCons (dFld [A.Address] "row" (dFld [A.Area] "first" (dVar 1))) dNil))) (dCons (dCB gMin (dCons (dFld [A.Address] "row" (dFld [A.Area] "last" (dVar 0))) (dCons (dFld [A.Address] "row" (dFld [A.Area] "last" (dVar 1))) dNil))) dNil))) (u_common_area_2 K A cs))
abbrev N_Area_common : List Str := ["self", "other"]
theorem sc_Area_common : FnScope N_Area_common ["self", "other"] (defScope (inClass (top 30) 3)) := ⟨rfl, rfl, rfl, by decide +kernel, rfl, by decide +kernel, by decide +kernel⟩
def t_Area_common (K : PySem.W.Frag) (A : Ad) (cs : List Int) : DTS :=
  (dSeq (dDrop (dCal 1 (s_need_area A) (dCons (dVar 1) dNil)))
    (dRet (dCal 2 (s_common_area A) (dCons (dVar 0) (dCons (dVar 1) dNil)))))
abbrev N_part_of : List Str := ["area", "top", "left", "bottom", "right", "whole"]
theorem sc_part_of : FnScope N_part_of ["area", "top", "left", "bottom", "right"] (defScope (top 34)) := ⟨rfl, rfl, rfl, by decide +kernel, rfl, by decide +kernel, by decide +kernel⟩
def t_part_of (K : PySem.W.Frag) (A : Ad) (cs : List Int) : DTS :=
  (dSeq (dIfS (dOr (dTest (dOp gGt (dVar 1) (dVar 3))) (dTest (dOp gGt (dVar 2) (dVar 4)))) (dRet (dLst dNil)) dNext)
    (dSeq (dAsg (dC .non) (dgName 5))
    (dSeq (dIfS (dAnd (dTest (dOp gEq (dFld [A.Area] "whole" (dVar 0)) (dC (.str [99, 111, 108, 117, 109, 110, 115])))) (dTest (dOp gEq (dOp gAdd (dOp gSub (dVar 3) (dVar 1)) (dC (.int 1))) (dC (.int 1000000))))) (dAsg (dC (.str [99, 111, 108, 117, 109, 110, 115])) (dgName 5)) dNext)
    (dSeq (dIfS (dAnd (dTest (dOp gEq (dFld [A.Area] "whole" (dVar 0)) (dC (.str [114, 111, 119, 115])))) (dTest (dOp gEq (dOp gAdd (dOp gSub (dVar 4) (dVar 2)) (dC (.int 1))) (dC (.int 18278))))) (dAsg (dC (.str [114, 111, 119, 115])) (dgName 5)) dNext)
    (dRet (dLst (dCons (dCal 6 (s_plain_area A) (dCons (dVar 1) (dCons (dVar 2) (dCons (dVar 3) (dCons (dVar 4) (dCons (dFld [A.Address, A.Area] "sheet" (dVar 0)) (dCons (dVar 5) dNil))))))) dNil)))))))
abbrev N_parts_without : List Str := ["area", "hole", "top", "left", "bottom", "right", "above", "below", "before", "behind"]
theorem sc_parts_without : FnScope N_parts_without ["area", "hole"] (defScope (top 35)) := ⟨rfl, rfl, rfl, by decide +kernel, rfl, by decide +kernel, by decide +kernel⟩
def u_parts_without_7 (K : PySem.W.Frag) (A : Ad) (cs : List Int) : DTS :=
  (dRet (dOp gAdd (dOp gAdd (dOp gAdd (dVar 6) (dVar 7)) (dVar 8)) (dVar 9)))
def u_parts_without_6 (K : PySem.W.Frag) (A : Ad) (cs : List Int) : DTS :=
  (dSeq (dAsg (dCal 5 (s_part_of A) (dCons (dVar 0) (dCons (dFld [A.Address] "row" (dFld [A.Area] "first" (dVar 1))) (dCons (dOp gAdd (dFld [A.Address] "column" (dFld [A.Area] "last" (dVar 1))) (dC (.int 1))) (dCons (dFld [A.Address] "row" (dFld [A.Area] "last" (dVar 1))) (dCons (dVar 5) dNil)))))) (dgName 9)) (u_parts_without_7 K A cs))
def u_parts_without_5 (K : PySem.W.Frag) (A : Ad) (cs : List Int) : DTS :=
  (dSeq (dAsg (dCal 5 (s_part_of A) (dCons (dVar 0) (dCons (dFld [A.Address] "row" (dFld [A.Area] "first" (dVar 1))) (dCons (dVar 3) (dCons (dFld [A.Address] "row" (dFld [A.Area] "last" (dVar 1))) (dCons (dOp gSub (dFld [A.Address] "column" (dFld [A.Area] "first" (dVar 1))) (dC (.int 1))) dNil)))))) (dgName 8)) (u_parts_without_6 K A cs))
def u_parts_without_4 (K : PySem.W.Frag) (A : Ad) (cs : List Int) : DTS :=
  (dSeq (dAsg (dCal 5 (s_part_of A) (dCons (dVar 0) (dCons (dOp gAdd (dFld [A.Address] "row" (dFld [A.Area] "last" (dVar 1))) (dC (.int 1))) (dCons (dVar 3) (dCons (dVar 4) (dCons (dVar 5) dNil)))))) (dgName 7)) (u_parts_without_5 K A cs))
def u_parts_without_3 (K : PySem.W.Frag) (A : Ad) (cs : List Int) : DTS :=
  (dSeq (dAsg (dCal 5 (s_part_of A) (dCons (dVar 0) (dCons (dVar 2) (dCons (dVar 3) (dCons (dOp gSub (dFld [A.Address] "row" (dFld [A.Area] "first" (dVar 1))) (dC (.int 1))) (dCons (dVar 5) dNil)))))) (dgName 6)) (u_parts_without_4 K A cs))
def u_parts_without_2 (K : PySem.W.Frag) (A : Ad) (cs : List Int) : DTS :=
  (dSeq (dIfS (dTest (dOp gIsN (dVar 1) (dC .non))) (dRet (dCal 5 (s_part_of A) (dCons (dVar 0) (dCons (dVar 2) (dCons (dVar 3) (dCons (dVar 4) (dCons (dVar 5) dNil))))))) dNext) (u_parts_without_3 K A cs))
def t_parts_without (K : PySem.W.Frag) (A : Ad) (cs : List Int) : DTS :=
  (dSeq (dAsg (dTup (dCons (dFld [A.Address] "row" (dFld [A.Area] "first" (dVar 0))) (dCons (dFld [A.Address] "column" (dFld [A.Area] "first" (dVar 0))) (dCons (dFld [A.Address] "row" (dFld [A.Area] "last" (dVar 0))) (dCons (dFld [A.Address] "column" (dFld [A.Area] "last" (dVar 0))) dNil))))) (dgTup 4 (dgCons (dgName 2) (dgCons (dgName 3) (dgCons (dgName 4) (dgCons (dgName 5) dgNil)))))) (u_parts_without_2 K A cs))
abbrev N_Area_without : List Str := ["self", "other"]
theorem sc_Area_without : FnScope N_Area_without ["self", "other"] (defScope (inClass (top 30) 4)) := ⟨rfl, rfl, rfl, by decide +kernel, rfl, by decide +kernel, by decide +kernel⟩
def t_Area_without (K : PySem.W.Frag) (A : Ad) (cs : List Int) : DTS :=
  (dSeq (dDrop (dCal 1 (s_need_area A) (dCons (dVar 1) dNil)))
    (dRet (dCB gTuple (dCons (dCal 2 (s_parts_without A) (dCons (dVar 0) (dCons (dCal 2 (s_common_area A) (dCons (dVar 0) (dCons (dVar 1) dNil))) dNil))) dNil))))
abbrev N__law_bare : List Str := ["_law_top", "_law_left", "_law_bottom", "_law_right", "_law_whole", "_law_sheet"]
theorem sc__law_bare : FnScope N__law_bare ["_law_top", "_law_left", "_law_bottom", "_law_right", "_law_whole", "_law_sheet"] (defScope (top 52)) := ⟨rfl, rfl, rfl, by decide +kernel, rfl, by decide +kernel, by decide +kernel⟩
def t__law_bare (K : PySem.W.Frag) (A : Ad) (cs : List Int) : DTS :=
  (dRet (dTup (dCons (dLst (dCons (dTup (dCons (dVar 0) (dCons (dC (.bl false)) dNil))) (dCons (dTup (dCons (dVar 2) (dCons (dC (.bl false)) dNil))) dNil))) (dCons (dLst (dCons (dTup (dCons (dVar 1) (dCons (dC (.bl false)) dNil))) (dCons (dTup (dCons (dVar 3) (dCons (dC (.bl false)) dNil))) dNil))) (dCons (dVar 4) (dCons (dVar 5) dNil))))))
abbrev N__law_meet : List Str := ["_law_one", "_law_other"]
theorem sc__law_meet : FnScope N__law_meet ["_law_one", "_law_other"] (defScope (top 50)) := ⟨rfl, rfl, rfl, by decide +kernel, rfl, by decide +kernel, by decide +kernel⟩
def t__law_meet (K : PySem.W.Frag) (A : Ad) (cs : List Int) : DTS :=
  (dRet (dOrV (dOp gIsN (dVar 0) (dC .non)) (dOrV (dOp gIsN (dVar 1) (dC .non)) (dOp gEq (dM0 gLower (dVar 0)) (dM0 gLower (dVar 1))))))
abbrev N__law_shared : List Str := ["_law_one", "_law_other", "_law_top", "_law_bottom", "_law_left", "_law_right", "_law_sheet"]
theorem sc__law_shared : FnScope N__law_shared ["_law_one", "_law_other"] (defScope (top 53)) := ⟨rfl, rfl, rfl, by decide +kernel, rfl, by decide +kernel, by decide +kernel⟩
def u__law_shared_5 (K : PySem.W.Frag) (A : Ad) (cs : List Int) : DTS :=
  (dRet (dCal 6 (s__law_bare A) (dCons (dVar 2) (dCons (dVar 4) (dCons (dVar 3) (dCons (dVar 5) (dCons (dIf (dTest (dOp gEq (dOp gIx (dVar 0) (dC (.int 2))) (dOp gIx (dVar 1) (dC (.int 2))))) (dOp gIx (dVar 0) (dC (.int 2))) (dC .non)) (dCons (dVar 6) dNil))))))))
def u__law_shared_4 (K : PySem.W.Frag) (A : Ad) (cs : List Int) : DTS :=
  (dSeq (dAsg (dIf (dTest (dOp gIsN (dOp gIx (dVar 0) (dC (.int 3))) (dC .non))) (dOp gIx (dVar 1) (dC (.int 3))) (dOp gIx (dVar 0) (dC (.int 3)))) (dgName 6)) (u__law_shared_5 K A cs))
def u__law_shared_3 (K : PySem.W.Frag) (A : Ad) (cs : List Int) : DTS :=
  (dSeq (dIfS (dOr (dTest (dOp gGt (dVar 2) (dVar 3))) (dOr (dTest (dOp gGt (dVar 4) (dVar 5))) (dNot (dTest (dCal 2 (s__law_meet A) (dCons (dOp gIx (dVar 0) (dC (.int 3))) (dCons (dOp gIx (dVar 1) (dC (.int 3))) dNil))))))) (dRet (dC .non)) dNext) (u__law_shared_4 K A cs))
def u__law_shared_2 (K : PySem.W.Frag) (A : Ad) (cs : List Int) : DTS :=
  (dSeq (dPar 4 5 (dCons (dCB gMax (dCons (dOp gIx (dOp gIx (dOp gIx (dVar 0) (dC (.int 1))) (dC (.int 0))) (dC (.int 0))) (dCons (dOp gIx (dOp gIx (dOp gIx (dVar 1) (dC (.int 1))) (dC (.int 0))) (dC (.int 0))) dNil))) (dCons (dCB gMin (dCons (dOp gIx (dOp gIx (dOp gIx (dVar 0) (dC (.int 1))) (dC (.int 1))) (dC (.int 0))) (dCons (dOp gIx (dOp gIx (dOp gIx (dVar 1) (dC (.int 1))) (dC (.int 1))) (dC (.int 0))) dNil))) dNil))) (u__law_shared_3 K A cs))
def t__law_shared (K : PySem.W.Frag) (A : Ad) (cs : List Int) : DTS :=
  (dSeq (dPar 2 3 (dCons (dCB gMax (dCons (dOp gIx (dOp gIx (dOp gIx (dVar 0) (dC (.int 0))) (dC (.int 0))) (dC (.int 0))) (dCons (dOp gIx (dOp gIx (dOp gIx (dVar 1) (dC (.int 0))) (dC (.int 0))) (dC (.int 0))) dNil))) (dCons (dCB gMin (dCons (dOp gIx (dOp gIx (dOp gIx (dVar 0) (dC (.int 0))) (dC (.int 1))) (dC (.int 0))) (dCons (dOp gIx (dOp gIx (dOp gIx (dVar 1) (dC (.int 0))) (dC (.int 1))) (dC (.int 0))) dNil))) dNil))) (u__law_shared_2 K A cs))
abbrev N__law_left_over : List Str := ["_law_one", "_law_hole", "_law_top", "_law_bottom", "_law_left", "_law_right", "_law_parts", "_law_first", "_law_last", "_law_start", "_law_end", "_law_found", "_law_part", "_law_is_all", "_law_whole"]
theorem sc__law_left_over : FnScope N__law_left_over ["_law_one", "_law_hole"] (defScope (top 54)) := ⟨rfl, rfl, rfl, by decide +kernel, rfl, by decide +kernel, by decide +kernel⟩
def u__law_left_over_6 (K : PySem.W.Frag) (A : Ad) (cs : List Int) : DTS :=
  (dRet (dFrz (dVar 11)))
def l__law_left_over_2 (K : PySem.W.Frag) (A : Ad) (cs : List Int) : DTS :=
  (dSeq (dAsg (dIf (dTest (dOp gEq (dOp gIx (dVar 0) (dC (.int 2))) (dC (.str [99, 111, 108, 117, 109, 110, 115])))) (dOp gEq (dOp gSub (dOp gIx (dVar 12) (dC (.int 2))) (dOp gIx (dVar 12) (dC (.int 0)))) (dC (.int 999999))) (dOp gEq (dOp gSub (dOp gIx (dVar 12) (dC (.int 3))) (dOp gIx (dVar 12) (dC (.int 1)))) (dC (.int 18277)))) (dgName 13))
    (dSeq (dAsg (dIf (dAnd (dTest (dOp gNotN (dOp gIx (dVar 0) (dC (.int 2))) (dC .non))) (dTest (dVar 13))) (dOp gIx (dVar 0) (dC (.int 2))) (dC .non)) (dgName 14))
    (dIfS (dAnd (dTest (dOp gLe (dOp gIx (dVar 12) (dC (.int 0))) (dOp gIx (dVar 12) (dC (.int 2))))) (dTest (dOp gLe (dOp gIx (dVar 12) (dC (.int 1))) (dOp gIx (dVar 12) (dC (.int 3)))))) (dDrop (dApp (dVar 11) (dCal 6 (s__law_bare A) (dCons (dOp gIx (dVar 12) (dC (.int 0))) (dCons (dOp gIx (dVar 12) (dC (.int 1))) (dCons (dOp gIx (dVar 12) (dC (.int 2))) (dCons (dOp gIx (dVar 12) (dC (.int 3))) (dCons (dVar 14) (dCons (dOp gIx (dVar 0) (dC (.int 3))) dNil))))))))) dNext)))
def u__law_left_over_5 (K : PySem.W.Frag) (A : Ad) (cs : List Int) : DTS :=
  (dSeq (dFor (diSeq (dVar 6)) (dgName 12) (l__law_left_over_2 K A cs)) (u__law_left_over_6 K A cs))
def u__law_left_over_4 (K : PySem.W.Frag) (A : Ad) (cs : List Int) : DTS :=
  (dSeq (dAsg (dLstM dNil) (dgName 11)) (u__law_left_over_5 K A cs))
def u__law_left_over_3 (K : PySem.W.Frag) (A : Ad) (cs : List Int) : DTS :=
  (dSeq (dIfS (dTest (dOp gNotN (dVar 1) (dC .non))) (dSeq (dAsg (dTup (dCons (dOp gIx (dOp gIx (dOp gIx (dVar 1) (dC (.int 0))) (dC (.int 0))) (dC (.int 0))) (dCons (dOp gIx (dOp gIx (dOp gIx (dVar 1) (dC (.int 0))) (dC (.int 1))) (dC (.int 0))) (dCons (dOp gIx (dOp gIx (dOp gIx (dVar 1) (dC (.int 1))) (dC (.int 0))) (dC (.int 0))) (dCons (dOp gIx (dOp gIx (dOp gIx (dVar 1) (dC (.int 1))) (dC (.int 1))) (dC (.int 0))) dNil))))) (dgTup 4 (dgCons (dgName 7) (dgCons (dgName 8) (dgCons (dgName 9) (dgCons (dgName 10) dgNil))))))
    (dSeq (dAsg (dLst (dCons (dTup (dCons (dVar 2) (dCons (dVar 4) (dCons (dOp gSub (dVar 7) (dC (.int 1))) (dCons (dVar 5) dNil))))) (dCons (dTup (dCons (dOp gAdd (dVar 8) (dC (.int 1))) (dCons (dVar 4) (dCons (dVar 3) (dCons (dVar 5) dNil))))) dNil))) (dgName 6))
    (dAsg (dOp gAdd (dVar 6) (dLst (dCons (dTup (dCons (dVar 7) (dCons (dVar 4) (dCons (dVar 8) (dCons (dOp gSub (dVar 9) (dC (.int 1))) dNil))))) (dCons (dTup (dCons (dVar 7) (dCons (dOp gAdd (dVar 10) (dC (.int 1))) (dCons (dVar 8) (dCons (dVar 5) dNil))))) dNil)))) (dgName 6)))) dNext) (u__law_left_over_4 K A cs))
def u__law_left_over_2 (K : PySem.W.Frag) (A : Ad) (cs : List Int) : DTS :=
  (dSeq (dAsg (dLst (dCons (dTup (dCons (dVar 2) (dCons (dVar 4) (dCons (dVar 3) (dCons (dVar 5) dNil))))) dNil)) (dgName 6)) (u__law_left_over_3 K A cs))
def t__law_left_over (K : PySem.W.Frag) (A : Ad) (cs : List Int) : DTS :=
  (dForg (dSeq (dAsg (dTup (dCons (dOp gIx (dOp gIx (dOp gIx (dVar 0) (dC (.int 0))) (dC (.int 0))) (dC (.int 0))) (dCons (dOp gIx (dOp gIx (dOp gIx (dVar 0) (dC (.int 0))) (dC (.int 1))) (dC (.int 0))) (dCons (dOp gIx (dOp gIx (dOp gIx (dVar 0) (dC (.int 1))) (dC (.int 0))) (dC (.int 0))) (dCons (dOp gIx (dOp gIx (dOp gIx (dVar 0) (dC (.int 1))) (dC (.int 1))) (dC (.int 0))) dNil))))) (dgTup 4 (dgCons (dgName 2) (dgCons (dgName 3) (dgCons (dgName 4) (dgCons (dgName 5) dgNil)))))) (u__law_left_over_2 K A cs)))
abbrev N__law_alike : List Str := ["_law_one", "_law_other"]
theorem sc__law_alike : FnScope N__law_alike ["_law_one", "_law_other"] (defScope (top 51)) := ⟨rfl, rfl, rfl, by decide +kernel, rfl, by decide +kernel, by decide +kernel⟩
def t__law_alike (K : PySem.W.Frag) (A : Ad) (cs : List Int) : DTS :=
  (dSeq (dIfS (dOr (dTest (dOp gNe (dSl (dVar 0) dNoPart (dPart (dC (.int 3)))) (dSl (dVar 1) dNoPart (dPart (dC (.int 3)))))) (dTest (dOp gNe (dOp gIsN (dOp gIx (dVar 0) (dC (.int 3))) (dC .non)) (dOp gIsN (dOp gIx (dVar 1) (dC (.int 3))) (dC .non))))) (dRet (dC (.bl false))) dNext)
    (dRet (dOrV (dOp gIsN (dOp gIx (dVar 0) (dC (.int 3))) (dC .non)) (dOp gEq (dM0 gLower (dOp gIx (dVar 0) (dC (.int 3)))) (dM0 gLower (dOp gIx (dVar 1) (dC (.int 3))))))))
abbrev N__law_pair_right : List Str := ["_law_pen_here", "_law_one", "_law_other", "_law_left", "_law_right", "_law_due", "_law_shared_here", "_law_rest", "_law_parts", "_law_k"]
theorem sc__law_pair_right : FnScope N__law_pair_right ["_law_pen_here", "_law_one", "_law_other"] (defScope (top 56)) := ⟨rfl, rfl, rfl, by decide +kernel, rfl, by decide +kernel, by decide +kernel⟩
def u__law_pair_right_9 (K : PySem.W.Frag) (A : Ad) (cs : List Int) : DTS :=
  (dRet (dOp (gEqO K A.Area (s_Area_eq A) false) (dLam (s_law_told A) (dMet A.Area "common" 2 (s_Area_common A) (dVar 3) (dCons (dVar 1) dNil))) (dTup (dCons (dC (.str [66, 97, 100, 86, 97, 108, 117, 101])) (dCons (dVar 1) dNil)))))
def l__law_pair_right_2 (K : PySem.W.Frag) (A : Ad) (cs : List Int) : DTS :=
  (dIfS (dNot (dTest (dCal 2 (s__law_is_area A) (dCons (dOp gIx (dVar 8) (dVar 9)) (dCons (dOp gIx (dVar 7) (dVar 9)) dNil))))) (dRet (dC (.bl false))) dNext)
def u__law_pair_right_8 (K : PySem.W.Frag) (A : Ad) (cs : List Int) : DTS :=
  (dSeq (dFor (diRange1 (dCons (dCB gLen (dCons (dVar 7) dNil)) dNil)) (dgName 9) (l__law_pair_right_2 K A cs)) (u__law_pair_right_9 K A cs))
def u__law_pair_right_7 (K : PySem.W.Frag) (A : Ad) (cs : List Int) : DTS :=
  (dSeq (dIfS (dOr (dNot (dTest (dCB (gIsi K) (dCons (dVar 8) (dCons (dC (.ty "tuple")) dNil))))) (dTest (dOp (gEqO K A.Area (s_Area_eq A) true) (dCB gLen (dCons (dVar 8) dNil)) (dCB gLen (dCons (dVar 7) dNil))))) (dRet (dC (.bl false))) dNext) (u__law_pair_right_8 K A cs))
def u__law_pair_right_6 (K : PySem.W.Frag) (A : Ad) (cs : List Int) : DTS :=
  (dSeq (dPar 7 8 (dCons (dCal 2 (s__law_left_over A) (dCons (dVar 1) (dCons (dVar 5) dNil))) (dCons (dMet A.Area "without" 2 (s_Area_without A) (dVar 3) (dCons (dVar 4) dNil)) dNil))) (u__law_pair_right_7 K A cs))
def u__law_pair_right_5 (K : PySem.W.Frag) (A : Ad) (cs : List Int) : DTS :=
  (dSeq (dIfS (dOr (dAnd (dTest (dOp gIsN (dVar 5) (dC .non))) (dTest (dOp gNotN (dVar 6) (dC .non)))) (dAnd (dTest (dOp gNotN (dVar 5) (dC .non))) (dNot (dTest (dCal 2 (s__law_is_area A) (dCons (dVar 6) (dCons (dVar 5) dNil))))))) (dRet (dC (.bl false))) dNext) (u__law_pair_right_6 K A cs))
def u__law_pair_right_4 (K : PySem.W.Frag) (A : Ad) (cs : List Int) : DTS :=
  (dSeq (dPar 5 6 (dCons (dCal 2 (s__law_shared A) (dCons (dVar 1) (dCons (dVar 2) dNil))) (dCons (dMet A.Area "common" 2 (s_Area_common A) (dVar 3) (dCons (dVar 4) dNil)) dNil))) (u__law_pair_right_5 K A cs))
def u__law_pair_right_3 (K : PySem.W.Frag) (A : Ad) (cs : List Int) : DTS :=
  (dSeq (dIfS (dOr (dTest (dOp (gEqO K A.Area (s_Area_eq A) true) (dOp (gEqO K A.Area (s_Area_eq A) false) (dVar 3) (dVar 4)) (dCal 2 (s__law_alike A) (dCons (dVar 1) (dCons (dVar 2) dNil))))) (dTest (dOp (gEqO K A.Area (s_Area_eq A) false) (dOp (gEqO K A.Area (s_Area_eq A) true) (dVar 3) (dVar 4)) (dCal 2 (s__law_alike A) (dCons (dVar 1) (dCons (dVar 2) dNil)))))) (dRet (dC (.bl false))) dNext) (u__law_pair_right_4 K A cs))
def u__law_pair_right_2 (K : PySem.W.Frag) (A : Ad) (cs : List Int) : DTS :=
  (dSeq (dAsg (dTup (dCons (dCal 1 (s__law_normal A) (dCons (dVar 1) dNil)) (dCons (dCal 1 (s__law_normal A) (dCons (dVar 2) dNil)) dNil))) (dgTup 2 (dgCons (dgName 1) (dgCons (dgName 2) dgNil)))) (u__law_pair_right_3 K A cs))
def t__law_pair_right (K : PySem.W.Frag) (A : Ad) (cs : List Int) : DTS :=
  (dSeq (dAsg (dTup (dCons (dCal 1 (s__law_area_made A) (dCons (dVar 1) dNil)) (dCons (dCal 1 (s__law_area_made A) (dCons (dVar 2) dNil)) dNil))) (dgTup 2 (dgCons (dgName 3) (dgCons (dgName 4) dgNil)))) (u__law_pair_right_2 K A cs))
abbrev N_Area_has : List Str := ["self", "address", "is_within"]
theorem sc_Area_has : FnScope N_Area_has ["self", "address"] (defScope (inClass (top 30) 2)) := ⟨rfl, rfl, rfl, by decide +kernel, rfl, by decide +kernel, by decide +kernel⟩
def t_Area_has (K : PySem.W.Frag) (A : Ad) (cs : List Int) : DTS :=
  (dSeq (dDrop (dCal 1 (s_need_address A) (dCons (dVar 1) dNil)))
    (dSeq (dIfS (dNot (dTest (dCal 2 (s_may_meet A) (dCons (dFld [A.Address, A.Area] "sheet" (dVar 0)) (dCons (dFld [A.Address, A.Area] "sheet" (dVar 1)) dNil))))) (dRet (dC (.bl false))) dNext)
    (dSeq (dAsg (dChain gLe gLe (dFld [A.Address] "row" (dFld [A.Area] "first" (dVar 0))) (dFld [A.Address] "row" (dVar 1)) (dFld [A.Address] "row" (dFld [A.Area] "last" (dVar 0)))) (dgName 2))
    (dRet (dAndV (dVar 2) (dChain gLe gLe (dFld [A.Address] "column" (dFld [A.Area] "first" (dVar 0))) (dFld [A.Address] "column" (dVar 1)) (dFld [A.Address] "column" (dFld [A.Area] "last" (dVar 0)))))))))
abbrev N__law_has_right : List Str := ["_law_pen_here", "_law_area_here", "_law_base", "_law_made_here", "_law_normal_here", "_law_turn", "_law_row", "_law_column", "_law_place", "_law_due"]
theorem sc__law_has_right : FnScope N__law_has_right ["_law_pen_here", "_law_area_here", "_law_base"] (defScope (top 57)) := ⟨rfl, rfl, rfl, by decide +kernel, rfl, by decide +kernel, by decide +kernel⟩
def u__law_has_right_3 (K : PySem.W.Frag) (A : Ad) (cs : List Int) : DTS :=
  (dRet (dC (.bl true)))
def l__law_has_right_2 (K : PySem.W.Frag) (A : Ad) (cs : List Int) : DTS :=
  (dSeq (dPar 6 7 (dCons (dOp gAdd (dOp gAdd (dOp gIx (dVar 2) (dC (.int 0))) (dC (.int 1))) (dCal 2 (s__law_draw A) (dCons (dVar 0) (dCons (dC (.int 7)) dNil)))) (dCons (dOp gAdd (dOp gAdd (dOp gIx (dVar 2) (dC (.int 1))) (dC (.int 1))) (dCal 2 (s__law_draw A) (dCons (dVar 0) (dCons (dC (.int 7)) dNil)))) dNil)))
    (dSeq (dAsg (dTup (dCons (dVar 6) (dCons (dVar 7) (dCons (dOp gEq (dCal 2 (s__law_draw A) (dCons (dVar 0) (dCons (dC (.int 2)) dNil))) (dC (.int 0))) (dCons (dC (.bl false)) (dCons (dCal 2 (s__law_pick A) (dCons (dVar 0) (dCons (dLst (dCons (dC .non) (dCons (dC (.str [111, 110, 101])) (dCons (dC (.str [84, 87, 79])) dNil)))) dNil))) dNil)))))) (dgName 8))
    (dSeq (dAsg (dAndV (dChain gLe gLe (dOp gIx (dOp gIx (dOp gIx (dVar 4) (dC (.int 0))) (dC (.int 0))) (dC (.int 0))) (dVar 6) (dOp gIx (dOp gIx (dOp gIx (dVar 4) (dC (.int 0))) (dC (.int 1))) (dC (.int 0)))) (dChain gLe gLe (dOp gIx (dOp gIx (dOp gIx (dVar 4) (dC (.int 1))) (dC (.int 0))) (dC (.int 0))) (dVar 7) (dOp gIx (dOp gIx (dOp gIx (dVar 4) (dC (.int 1))) (dC (.int 1))) (dC (.int 0))))) (dgName 9))
    (dIfS (dTest (dOp gNe (dMet A.Area "has" 2 (s_Area_has A) (dVar 3) (dCons (dCal 1 (s__law_made A) (dCons (dVar 8) dNil)) dNil)) (dAndV (dVar 9) (dCal 2 (s__law_meet A) (dCons (dOp gIx (dVar 4) (dC (.int 3))) (dCons (dOp gIx (dVar 8) (dC (.int 4))) dNil)))))) (dRet (dC (.bl false))) dNext))))
def u__law_has_right_2 (K : PySem.W.Frag) (A : Ad) (cs : List Int) : DTS :=
  (dSeq (dFor (diRange1 (dCons (dC (.int 3)) dNil)) (dgName 5) (l__law_has_right_2 K A cs)) (u__law_has_right_3 K A cs))
def t__law_has_right (K : PySem.W.Frag) (A : Ad) (cs : List Int) : DTS :=
  (dSeq (dPar 3 4 (dCons (dCal 1 (s__law_area_made A) (dCons (dVar 1) dNil)) (dCons (dCal 1 (s__law_normal A) (dCons (dVar 1) dNil)) dNil))) (u__law_has_right_2 K A cs))
abbrev N_Area_cells : List Str := ["self", "rows", "columns", "row", "column"]
theorem sc_Area_cells : FnScope N_Area_cells ["self"] (defScope (inClass (top 30) 5)) := ⟨rfl, rfl, rfl, by decide +kernel, rfl, by decide +kernel, by decide +kernel⟩
def t_Area_cells (K : PySem.W.Frag) (A : Ad) (cs : List Int) : DTS :=
  (dForg (dSeq (dIfS (dTest (dOp gGt (dOp gMul (dFld [A.Area] "height" (dVar 0)) (dFld [A.Area] "width" (dVar 0))) (dC (.int 10000)))) (dRaise A.TooMany "most" (dCons (dC (.int 10000)) dNil)) dNext)
    (dSeq (dAsg (dRngV (dCons (dFld [A.Address] "row" (dFld [A.Area] "first" (dVar 0))) (dCons (dOp gAdd (dFld [A.Address] "row" (dFld [A.Area] "last" (dVar 0))) (dC (.int 1))) dNil))) (dgName 1))
    (dSeq (dAsg (dRngV (dCons (dFld [A.Address] "column" (dFld [A.Area] "first" (dVar 0))) (dCons (dOp gAdd (dFld [A.Address] "column" (dFld [A.Area] "last" (dVar 0))) (dC (.int 1))) dNil))) (dgName 2))
    (dRet (dCB gTuple (dCons (dLc2 (diRngN (dVar 1)) (dgName 3) (diRngN (dVar 2)) (dgName 4) (dNew 2 ["sheet"] g_Address_new2 (s_Address A) (dCons (dVar 3) (dCons (dVar 4) dNil)) (dCons (dFld [A.Address, A.Area] "sheet" (dVar 0)) dNil)) [3, 4] [4]) dNil)))))))
abbrev N__law_cells_right : List Str := ["_law_pen_here", "_law_area_here", "_law_wide", "_law_made_here", "_law_normal_here", "_law_height", "_law_width", "_law_told_here", "_law_at", "_law_row", "_law_column"]
theorem sc__law_cells_right : FnScope N__law_cells_right ["_law_pen_here", "_law_area_here"] (defScope (top 58)) := ⟨rfl, rfl, rfl, by decide +kernel, rfl, by decide +kernel, by decide +kernel⟩
def u__law_cells_right_8 (K : PySem.W.Frag) (A : Ad) (cs : List Int) : DTS :=
  (dRet (dC (.bl true)))
def l__law_cells_right_2 (K : PySem.W.Frag) (A : Ad) (cs : List Int) : DTS :=
  (dSeq (dPar 9 10 (dCons (dOp gAdd (dOp gIx (dOp gIx (dOp gIx (dVar 4) (dC (.int 0))) (dC (.int 0))) (dC (.int 0))) (dOp gDiv (dVar 8) (dVar 6))) (dCons (dOp gAdd (dOp gIx (dOp gIx (dOp gIx (dVar 4) (dC (.int 1))) (dC (.int 0))) (dC (.int 0))) (dOp gMod (dCB gInt (dCons (dVar 8) dNil)) (dVar 6))) dNil)))
    (dIfS (dNot (dTest (dCal 2 (s__law_is A) (dCons (dOp gIx (dOp gIx (dVar 7) (dC (.int 1))) (dVar 8)) (dCons (dTup (dCons (dVar 9) (dCons (dVar 10) (dCons (dC (.bl false)) (dCons (dC (.bl false)) (dCons (dOp gIx (dVar 4) (dC (.int 3))) dNil)))))) dNil))))) (dRet (dC (.bl false))) dNext))
def u__law_cells_right_7 (K : PySem.W.Frag) (A : Ad) (cs : List Int) : DTS :=
  (dSeq (dFor (diRange3 (dCons (dC (.int 0)) (dCons (dOp gMul (dVar 5) (dVar 6)) (dCons (dIf (dTest (dOp gLt (dVar 6) (dC (.int 10)))) (dC (.int 1)) (dC (.int 999))) dNil)))) (dgName 8) (l__law_cells_right_2 K A cs)) (u__law_cells_right_8 K A cs))
def u__law_cells_right_6 (K : PySem.W.Frag) (A : Ad) (cs : List Int) : DTS :=
  (dSeq (dIfS (dOr (dTest (dOp gNe (dOp gIx (dVar 7) (dC (.int 0))) (dC (.str [116, 111, 108, 100])))) (dOr (dNot (dTest (dCB (gIsi K) (dCons (dOp gIx (dVar 7) (dC (.int 1))) (dCons (dC (.ty "tuple")) dNil))))) (dTest (dOp gNe (dCB gLen (dCons (dOp gIx (dVar 7) (dC (.int 1))) dNil)) (dOp gMul (dVar 5) (dVar 6)))))) (dRet (dC (.bl false))) dNext) (u__law_cells_right_7 K A cs))
def u__law_cells_right_5 (K : PySem.W.Frag) (A : Ad) (cs : List Int) : DTS :=
  (dSeq (dIfS (dTest (dOp gGt (dOp gMul (dVar 5) (dVar 6)) (dC (.int 10000)))) (dRet (dOp gEq (dVar 7) (dTup (dCons (dC (.str [84, 111, 111, 77, 97, 110, 121])) (dCons (dC (.int 10000)) dNil))))) dNext) (u__law_cells_right_6 K A cs))
def u__law_cells_right_4 (K : PySem.W.Frag) (A : Ad) (cs : List Int) : DTS :=
  (dSeq (dAsg (dLam (s_law_told A) (dMet A.Area "cells" 1 (s_Area_cells A) (dVar 3) dNil)) (dgName 7)) (u__law_cells_right_5 K A cs))
def u__law_cells_right_3 (K : PySem.W.Frag) (A : Ad) (cs : List Int) : DTS :=
  (dSeq (dPar 5 6 (dCons (dOp gAdd (dOp gSub (dOp gIx (dOp gIx (dOp gIx (dVar 4) (dC (.int 0))) (dC (.int 1))) (dC (.int 0))) (dOp gIx (dOp gIx (dOp gIx (dVar 4) (dC (.int 0))) (dC (.int 0))) (dC (.int 0)))) (dC (.int 1))) (dCons (dOp gAdd (dOp gSub (dOp gIx (dOp gIx (dOp gIx (dVar 4) (dC (.int 1))) (dC (.int 1))) (dC (.int 0))) (dOp gIx (dOp gIx (dOp gIx (dVar 4) (dC (.int 1))) (dC (.int 0))) (dC (.int 0)))) (dC (.int 1))) dNil))) (u__law_cells_right_4 K A cs))
def u__law_cells_right_2 (K : PySem.W.Frag) (A : Ad) (cs : List Int) : DTS :=
  (dSeq (dAsg (dTup (dCons (dCal 1 (s__law_area_made A) (dCons (dVar 1) dNil)) (dCons (dCal 1 (s__law_normal A) (dCons (dVar 1) dNil)) dNil))) (dgTup 2 (dgCons (dgName 3) (dgCons (dgName 4) dgNil)))) (u__law_cells_right_3 K A cs))
def t__law_cells_right (K : PySem.W.Frag) (A : Ad) (cs : List Int) : DTS :=
  (dSeq (dIfS (dTest (dOp gEq (dCal 2 (s__law_draw A) (dCons (dVar 0) (dCons (dC (.int 60)) dNil))) (dC (.int 0)))) (dSeq (dAsg (dLst (dCons (dTup (dCons (dC (.int 1)) (dCons (dC (.bl false)) dNil))) (dCons (dTup (dCons (dC (.int 100)) (dCons (dC (.bl false)) dNil))) dNil))) (dgName 2))
    (dAsg (dTup (dCons (dVar 2) (dCons (dLst (dCons (dTup (dCons (dC (.int 7)) (dCons (dC (.bl false)) dNil))) (dCons (dTup (dCons (dOp gAdd (dC (.int 106)) (dCal 2 (s__law_draw A) (dCons (dVar 0) (dCons (dC (.int 2)) dNil)))) (dCons (dC (.bl false)) dNil))) dNil))) (dCons (dC .non) (dCons (dOp gIx (dVar 1) (dC (.int 3))) dNil))))) (dgName 1))) dNext) (u__law_cells_right_2 K A cs))
abbrev N_law : List Str := ["_law_script", "_law_pen_here", "_law_lap", "_law_base", "_law_sheets", "_law_area_here", "_law_other"]
theorem sc_law : FnScope N_law ["_law_script"] (defScope (top 59)) := ⟨rfl, rfl, rfl, by decide +kernel, rfl, by decide +kernel, by decide +kernel⟩
def l_law_1 (K : PySem.W.Frag) (A : Ad) (cs : List Int) : DTS :=
  (dSeq (dAsg (dCal 2 (s__law_pick A) (dCons (dVar 1) (dCons (dLst (dCons (dTup (dCons (dC (.int 0)) (dCons (dC (.int 0)) dNil))) (dCons (dTup (dCons (dC (.int 0)) (dCons (dC (.int 0)) dNil))) (dCons (dTup (dCons (dC (.int 999993)) (dCons (dC (.int 18271)) dNil))) (dCons (dTup (dCons (dC (.int 41)) (dCons (dC (.int 700)) dNil))) dNil))))) dNil))) (dgName 3))
    (dSeq (dAsg (dLst (dCons (dC .non) (dCons (dC .non) (dCons (dC (.str [79, 110, 101])) (dCons (dC (.str [111, 110, 101])) (dCons (dC (.str [84, 119, 111])) dNil)))))) (dgName 4))
    (dSeq (dPar 5 6 (dCons (dCal 3 (s__law_area A) (dCons (dVar 1) (dCons (dVar 3) (dCons (dVar 4) dNil)))) (dCons (dCal 3 (s__law_area A) (dCons (dVar 1) (dCons (dVar 3) (dCons (dVar 4) dNil)))) dNil)))
    (dSeq (dIfS (dTest (dOp gEq (dCal 2 (s__law_draw A) (dCons (dVar 1) (dCons (dC (.int 8)) dNil))) (dC (.int 0)))) (dAsg (dTup (dCons (dRevL (dOp gIx (dVar 5) (dC (.int 0)))) (dCons (dOp gIx (dVar 5) (dC (.int 1))) (dCons (dOp gIx (dVar 5) (dC (.int 2))) (dCons (dOp gIx (dVar 5) (dC (.int 3))) dNil))))) (dgName 6)) dNext)
    (dSeq (dIfS (dOr (dNot (dTest (dCal 2 (s__law_made_right A) (dCons (dVar 1) (dCons (dVar 5) dNil))))) (dNot (dTest (dCal 3 (s__law_pair_right A) (dCons (dVar 1) (dCons (dVar 5) (dCons (dVar 6) dNil))))))) (dRet (dC (.bl false))) dNext)
    (dIfS (dOr (dNot (dTest (dCal 3 (s__law_has_right A) (dCons (dVar 1) (dCons (dVar 5) (dCons (dVar 3) dNil)))))) (dNot (dTest (dCal 2 (s__law_cells_right A) (dCons (dVar 1) (dCons (dVar 5) dNil)))))) (dRet (dC (.bl false))) dNext))))))
def t_law (K : PySem.W.Frag) (A : Ad) (cs : List Int) : DTS :=
  (dSeq (dFor (diRange1 (dCons (dC (.int 2)) dNil)) (dgName 2) (l_law_1 K A cs))
    (dRet (dC (.bl true))))
-- end
end K17

set_option Elab.async false
set_option linter.all false
set_option maxRecDepth 100000
set_option maxHeartbeats 8000000
set_option autoImplicit false
namespace K17
open PySem PySem.Spec PyProof.Rows L2 DL
section
variable {P : Program} {w : World} {K : PySem.W.Frag} {mg : Str → Option Value} {A : Ad}
theorem p__law_told (T : Txt P K mg A) {f c : Addr} {q : Str} {σ : List (Option V)} {δ : List (Option D)} {fb : DTE} {n : NS} {qd : D → NS → Prop} (h : s_law_told A (fun n' q' y => fb δ n' q' fun _ => y) n qd) :
    t__law_told K A f c q σ δ fb { nx := fun _ n' => qd .non n', rt := qd } (startD N__law_told [.thk f c q σ δ]) n := by
  unfold s_law_told at h
  unfold t__law_told
  simp only [dSeq, dNext, dIfS, dTest, dOp, dVar, dC, dRet, dRetN, dGet, dAnd, dOr, dNot, dAndV, dOrV, dNotV, dIf, dNil, dCons, dTup, dLst, dCB, dM0, dM1, dDrop, dAsg, dgName, dPar, dCal, dChain, dRaise, dRaise2, dFor, diSeq, items, diRange1, diRange2, dLc, dYes, dgTup, dgCons, dgNil, dSl, dPart, dNoPart, dNeg, dPenC, dPenA, dPenL, dPutA, dPutL, dFld, dgFld, dNew, dMet, dLstM, dFrz, dApp, dgIx, dAug, startD, List.map_cons, List.map_nil, List.length_cons, List.length_nil, List.replicate, Nat.reduceAdd, Nat.reduceSub, List.cons_append, List.nil_append, List.append_nil, List.set_cons_zero, List.set_cons_succ, List.getElem?_cons_zero, List.getElem?_cons_succ, dTry, dAct]
  refine ⟨by decide, trivial, _, _, h, fun d n' hq => ⟨by decide, hq⟩, fun C ns xs n' hy => ?_⟩
  rcases hy with ⟨rfl, x, rfl, rfl, hq⟩ | ⟨rfl, x, rfl, rfl, hq⟩
  · refine ⟨true, T.m_BB, fun _ a dd => ?_, fun z => nomatch z⟩
    simp only [dSeq, dNext, dIfS, dTest, dOp, dVar, dC, dRet, dRetN, dGet, dAnd, dOr, dNot, dAndV, dOrV, dNotV, dIf, dNil, dCons, dTup, dLst, dCB, dM0, dM1, dDrop, dAsg, dgName, dPar, dCal, dChain, dRaise, dRaise2, dFor, diSeq, items, diRange1, diRange2, dLc, dYes, dgTup, dgCons, dgNil, dSl, dPart, dNoPart, dNeg, dPenC, dPenA, dPenL, dPutA, dPutL, dFld, dgFld, dNew, dMet, dLstM, dFrz, dApp, dgIx, dAug, startD, List.map_cons, List.map_nil, List.length_cons, List.length_nil, List.replicate, Nat.reduceAdd, Nat.reduceSub, List.cons_append, List.nil_append, List.append_nil, List.set_cons_zero, List.set_cons_succ, List.getElem?_cons_zero, List.getElem?_cons_succ, dXf, hdOff]
    exact ⟨⟨trivial, trivial, trivial, trivial⟩, x, rfl, by decide, hq⟩
  · refine ⟨false, T.m_TB, fun z => (by cases z), fun _ => ⟨false, T.m_TN, fun z => (by cases z), fun _ => ⟨false, T.m_TO, fun z => (by cases z), fun _ => ⟨true, T.m_TT, fun _ a dd => ?_, fun z => nomatch z⟩⟩⟩⟩
    simp only [dSeq, dNext, dIfS, dTest, dOp, dVar, dC, dRet, dRetN, dGet, dAnd, dOr, dNot, dAndV, dOrV, dNotV, dIf, dNil, dCons, dTup, dLst, dCB, dM0, dM1, dDrop, dAsg, dgName, dPar, dCal, dChain, dRaise, dRaise2, dFor, diSeq, items, diRange1, diRange2, dLc, dYes, dgTup, dgCons, dgNil, dSl, dPart, dNoPart, dNeg, dPenC, dPenA, dPenL, dPutA, dPutL, dFld, dgFld, dNew, dMet, dLstM, dFrz, dApp, dgIx, dAug, startD, List.map_cons, List.map_nil, List.length_cons, List.length_nil, List.replicate, Nat.reduceAdd, Nat.reduceSub, List.cons_append, List.nil_append, List.append_nil, List.set_cons_zero, List.set_cons_succ, List.getElem?_cons_zero, List.getElem?_cons_succ, dXf, hdOff]
    exact ⟨⟨trivial, trivial, trivial, trivial⟩, x, rfl, by decide, hq⟩
end
end K17

set_option Elab.async false
set_option linter.all false
set_option maxRecDepth 100000
set_option maxHeartbeats 8000000
set_option autoImplicit false
namespace K17
open PySem PySem.Spec PyProof.Rows L2 DL
/-- a comprehension whose item's value is f of the item -/
theorem lc_pure {i : Nat} {vs : List Nat} {te : DTE} {f : D → D} {δ : DEnv} {n : NS} {q : List D → NS → Prop} : ∀ (ds acc : List D), (∀ d ∈ ds, ∀ (m : Addr → Option MO) (Q : D → NS → Prop), Q (f d) ⟨n.at_, m⟩ → te ((wipeD δ vs).set i (some d)) ⟨n.at_, m⟩ Q noX) → acc.length + ds.length ≤ 100000 → q (acc ++ ds.map f) n → dLcL (dgName i) dYes te vs ds acc δ n q
  | [], acc, _, _, h => by
    simp only [List.map_nil, List.append_nil] at h
    exact h
  | d :: ds, acc, ht, hl, h => by
    simp only [List.length_cons] at hl
    simp only [dLcL, dgName, dYes]
    refine ⟨by omega, fun m _ => ht d List.mem_cons_self m _ ⟨rfl, ?_⟩⟩
    refine lc_pure ds _ (fun e he => ht e (List.mem_cons_of_mem _ he)) (by simp only [List.length_append, List.length_cons, List.length_nil]; omega) ?_
    rw [List.append_assoc]
    exact h
theorem atI_nat {α : Type} {xs : List α} {j : Nat} (h : j < xs.length) : L2.atI xs (j : Int) = some xs[j] := by
  unfold L2.atI L2.ixN
  rw [if_pos (by omega), if_pos (by omega)]
  simp [h]
theorem at0 {α : Type} (c : α) (r : List α) : L2.atI (c :: r) 0 = some c := atI_nat (xs := c :: r) (j := 0) (by simp)
section
variable {P : Program} {K : PySem.W.Frag} {mg : Str → Option Value} {A : Ad} {cs : List Int}
theorem p_is_integer (ds : List D) (n : NS) (q : D → NS → Prop) (e : DY) (hl : ds.length = 1) (h : s_is_integer A ds n q e) : t_is_integer K A cs { nx := fun _ n' => q .non n', rt := q, ex := fun _ => e } (startD N_is_integer ds) n := by
  obtain ⟨x, rfl, hk, h⟩ := h
  unfold t_is_integer
  cases x <;> first | (simp [kindD] at hk; done) | skip
  all_goals
    simp only [dSeq, dNext, dIfS, dTest, dOp, dVar, dC, dRet, dRetN, dGet, dAnd, dOr, dNot, dAndV, dOrV, dNotV, dIf, dNil, dCons, dTup, dLst, dCB, dM0, dM1, dDrop, dAsg, dgName, dPar, dCal, dChain, dRaise, dRaise2, dFor, diSeq, items, diRange1, diRange2, dLc, dYes, dgTup, dgCons, dgNil, dSl, dPart, dNoPart, dNeg, dPenC, dPenA, dPenL, dPutA, dPutL, dFld, dgFld, dNew, dMet, dLstM, dFrz, dApp, dgIx, dAug, startD, List.map_cons, List.map_nil, List.length_cons, List.length_nil, List.replicate, Nat.reduceAdd, Nat.reduceSub, List.cons_append, List.nil_append, List.append_nil, List.set_cons_zero, List.set_cons_succ, List.getElem?_cons_zero, List.getElem?_cons_succ]
    simp only [gIsi, isiD, kindD, isIntD, kit_int_int, kit_int_bool, kit_int_str, kit_int_list, kit_int_tuple, kit_bool_int, kit_bool_bool, kit_bool_str, kit_bool_list, kit_bool_tuple, kit_str_int, kit_str_bool, kit_str_str, kit_str_list, kit_str_tuple, kit_non_int, kit_non_bool, kit_non_str, kit_non_list, kit_non_tuple, kit_list_int, kit_list_bool, kit_list_str, kit_list_list, kit_list_tuple, kit_tuple_int, kit_tuple_bool, kit_tuple_str, kit_tuple_list, kit_tuple_tuple] at h ⊢
    exact h
theorem p_need_integer (ds : List D) (n : NS) (q : D → NS → Prop) (e : DY) (hl : ds.length = 1) (h : s_need_integer A ds n q e) : t_need_integer K A cs { nx := fun _ n' => q .non n', rt := q, ex := fun _ => e } (startD N_need_integer ds) n := by
  obtain ⟨x, rfl, hk, h1, h2⟩ := h
  unfold t_need_integer
  simp only [dSeq, dNext, dIfS, dTest, dOp, dVar, dC, dRet, dRetN, dGet, dAnd, dOr, dNot, dAndV, dOrV, dNotV, dIf, dNil, dCons, dTup, dLst, dCB, dM0, dM1, dDrop, dAsg, dgName, dPar, dCal, dChain, dRaise, dRaise2, dFor, diSeq, items, diRange1, diRange2, dLc, dYes, dgTup, dgCons, dgNil, dSl, dPart, dNoPart, dNeg, dPenC, dPenA, dPenL, dPutA, dPutL, dFld, dgFld, dNew, dMet, dLstM, dFrz, dApp, dgIx, dAug, startD, List.map_cons, List.map_nil, List.length_cons, List.length_nil, List.replicate, Nat.reduceAdd, Nat.reduceSub, List.cons_append, List.nil_append, List.append_nil, List.set_cons_zero, List.set_cons_succ, List.getElem?_cons_zero, List.getElem?_cons_succ]
  refine ⟨trivial, x, rfl, hk, ?_⟩
  cases hx : isIntD x with
  | true => exact h1 hx
  | false => exact ⟨trivial, h2 hx⟩
theorem p_need_truth (ds : List D) (n : NS) (q : D → NS → Prop) (e : DY) (hl : ds.length = 1) (h : s_need_truth A ds n q e) : t_need_truth K A cs { nx := fun _ n' => q .non n', rt := q, ex := fun _ => e } (startD N_need_truth ds) n := by
  obtain ⟨x, rfl, hk, h1, h2⟩ := h
  unfold t_need_truth
  simp only [dSeq, dNext, dIfS, dTest, dOp, dVar, dC, dRet, dRetN, dGet, dAnd, dOr, dNot, dAndV, dOrV, dNotV, dIf, dNil, dCons, dTup, dLst, dCB, dM0, dM1, dDrop, dAsg, dgName, dPar, dCal, dChain, dRaise, dRaise2, dFor, diSeq, items, diRange1, diRange2, dLc, dYes, dgTup, dgCons, dgNil, dSl, dPart, dNoPart, dNeg, dPenC, dPenA, dPenL, dPutA, dPutL, dFld, dgFld, dNew, dMet, dLstM, dFrz, dApp, dgIx, dAug, startD, List.map_cons, List.map_nil, List.length_cons, List.length_nil, List.replicate, Nat.reduceAdd, Nat.reduceSub, List.cons_append, List.nil_append, List.append_nil, List.set_cons_zero, List.set_cons_succ, List.getElem?_cons_zero, List.getElem?_cons_succ]
  cases x <;> first | (simp [kindD] at hk; done) | skip
  all_goals simp only [gIsi, isiD, kindD, kit_int_int, kit_int_bool, kit_int_str, kit_int_list, kit_int_tuple, kit_bool_int, kit_bool_bool, kit_bool_str, kit_bool_list, kit_bool_tuple, kit_str_int, kit_str_bool, kit_str_str, kit_str_list, kit_str_tuple, kit_non_int, kit_non_bool, kit_non_str, kit_non_list, kit_non_tuple, kit_list_int, kit_list_bool, kit_list_str, kit_list_list, kit_list_tuple, kit_tuple_int, kit_tuple_bool, kit_tuple_str, kit_tuple_list, kit_tuple_tuple, Bool.not_false, Bool.not_true]
  case bl b => exact h1 rfl
  all_goals exact ⟨trivial, h2 rfl⟩
theorem lt1 (a b : Nat) : ([a] < [b]) ↔ a < b := by simp [List.cons_lt_cons_iff]
theorem p_is_digit (ds : List D) (n : NS) (q : D → NS → Prop) (e : DY) (hl : ds.length = 1) (h : s_is_digit A ds n q e) : t_is_digit K A cs { nx := fun _ n' => q .non n', rt := q, ex := fun _ => e } (startD N_is_digit ds) n := by
  obtain ⟨c, rfl, h⟩ := h
  unfold t_is_digit
  simp only [dSeq, dNext, dIfS, dTest, dOp, dVar, dC, dRet, dRetN, dGet, dAnd, dOr, dNot, dAndV, dOrV, dNotV, dIf, dNil, dCons, dTup, dLst, dCB, dM0, dM1, dDrop, dAsg, dgName, dPar, dCal, dChain, dRaise, dRaise2, dFor, diSeq, items, diRange1, diRange2, dLc, dYes, dgTup, dgCons, dgNil, dSl, dPart, dNoPart, dNeg, dPenC, dPenA, dPenL, dPutA, dPutL, dFld, dgFld, dNew, dMet, dLstM, dFrz, dApp, dgIx, dAug, startD, List.map_cons, List.map_nil, List.length_cons, List.length_nil, List.replicate, Nat.reduceAdd, Nat.reduceSub, List.cons_append, List.nil_append, List.append_nil, List.set_cons_zero, List.set_cons_succ, List.getElem?_cons_zero, List.getElem?_cons_succ, gLe, gOrd, lt1]
  unfold isDig at h
  by_cases a : 48 ≤ c
  · have a' : ¬ c < 48 := by omega
    by_cases b : c ≤ 57
    · have b' : ¬ 57 < c := by omega
      simp only [a, b, a', b', decide_true, decide_false, Bool.not_false, Bool.and_self] at h ⊢
      exact h
    · have b' : 57 < c := by omega
      simp only [a, b, a', b', decide_true, decide_false, Bool.not_false, Bool.not_true, Bool.and_false] at h ⊢
      exact h
  · have a' : c < 48 := by omega
    simp only [a, a', decide_true, decide_false, Bool.not_true, Bool.false_and] at h ⊢
    exact h
theorem p_is_letter (ds : List D) (n : NS) (q : D → NS → Prop) (e : DY) (hl : ds.length = 1) (h : s_is_letter A ds n q e) : t_is_letter K A cs { nx := fun _ n' => q .non n', rt := q, ex := fun _ => e } (startD N_is_letter ds) n := by
  obtain ⟨c, rfl, h⟩ := h
  unfold t_is_letter
  simp only [dSeq, dNext, dIfS, dTest, dOp, dVar, dC, dRet, dRetN, dGet, dAnd, dOr, dNot, dAndV, dOrV, dNotV, dIf, dNil, dCons, dTup, dLst, dCB, dM0, dM1, dDrop, dAsg, dgName, dPar, dCal, dChain, dRaise, dRaise2, dFor, diSeq, items, diRange1, diRange2, dLc, dYes, dgTup, dgCons, dgNil, dSl, dPart, dNoPart, dNeg, dPenC, dPenA, dPenL, dPutA, dPutL, dFld, dgFld, dNew, dMet, dLstM, dFrz, dApp, dgIx, dAug, startD, List.map_cons, List.map_nil, List.length_cons, List.length_nil, List.replicate, Nat.reduceAdd, Nat.reduceSub, List.cons_append, List.nil_append, List.append_nil, List.set_cons_zero, List.set_cons_succ, List.getElem?_cons_zero, List.getElem?_cons_succ, gLe, gOrd, lt1]
  unfold isLet at h
  by_cases a : 97 ≤ c
  · have a' : ¬ c < 97 := by omega
    by_cases b : c ≤ 122
    · have b' : ¬ 122 < c := by omega
      simp only [a, b, a', b', decide_true, decide_false, Bool.not_false, Bool.not_true, Bool.and_true, Bool.true_or] at h ⊢
      exact h
    · have b' : 122 < c := by omega
      have c1 : ¬ c < 65 := by omega
      have c2 : 90 < c := by omega
      have c3 : ¬ c ≤ 90 := by omega
      have c4 : 65 ≤ c := by omega
      simp only [a, b, a', b', c1, c2, c3, c4, decide_true, decide_false, Bool.not_false, Bool.not_true, Bool.and_true, Bool.and_false, Bool.true_or, Bool.or_self, Bool.false_or] at h ⊢
      exact h
  · have a' : c < 97 := by omega
    by_cases b : 65 ≤ c
    · have b' : ¬ c < 65 := by omega
      by_cases d : c ≤ 90
      · have d' : ¬ 90 < c := by omega
        simp only [a, b, d, a', b', d', decide_true, decide_false, Bool.not_false, Bool.not_true, Bool.and_true, Bool.false_and, Bool.false_or] at h ⊢
        exact h
      · have d' : 90 < c := by omega
        simp only [a, b, d, a', b', d', decide_true, decide_false, Bool.not_false, Bool.not_true, Bool.and_true, Bool.and_false, Bool.false_and, Bool.false_or] at h ⊢
        exact h
    · have b' : c < 65 := by omega
      simp only [a, b, a', b', decide_true, decide_false, Bool.not_false, Bool.not_true, Bool.and_true, Bool.and_false, Bool.false_and, Bool.false_or] at h ⊢
      exact h
/-! ### bounds of a length -/
theorem len_le {l : List Nat} {k : Nat} : (((l.length : Nat) : Int) ≤ ((k : Nat) : Int)) ↔ l.length ≤ k := by omega
theorem all_map (f : Nat → Bool) (l : List Nat) : (l.map f).all id = l.all f := by
  rw [List.all_map]
  rfl
theorem bl_map (f : Nat → Bool) (l : List Nat) : (l.map fun c => D.str [c]).map (fun d => match d with | .str [c] => .bl (f c) | x => x) = (l.map f).map D.bl := by
  rw [List.map_map, List.map_map]
  rfl
/-- [f(sign) for sign in text], f told of each sign -/
theorem lc_signs {i : Nat} {vs : List Nat} {te : DTE} {f : Nat → Bool} {δ : DEnv} {n : NS} {q : List D → NS → Prop} (l : List Nat) (ht : ∀ c ∈ l, ∀ (m : Addr → Option MO) (Q : D → NS → Prop), Q (.bl (f c)) ⟨n.at_, m⟩ → te ((wipeD δ vs).set i (some (.str [c]))) ⟨n.at_, m⟩ Q noX) (hl : l.length ≤ 100000) (h : q ((l.map f).map D.bl) n) :
    dLcL (dgName i) dYes te vs (l.map fun c => .str [c]) [] δ n q := by
  refine lc_pure (f := fun d => match d with | .str [c] => .bl (f c) | x => x) _ [] (fun d hd m Q hQ => ?_) (by simpa using hl) (by rw [List.nil_append, bl_map]; exact h)
  obtain ⟨c, hc, rfl⟩ := List.mem_map.mp hd
  exact ht c hc m Q hQ
theorem p_is_sheet_word (ds : List D) (n : NS) (q : D → NS → Prop) (e : DY) (hl : ds.length = 1) (h : s_is_sheet_word A ds n q e) : t_is_sheet_word K A cs { nx := fun _ n' => q .non n', rt := q, ex := fun _ => e } (startD N_is_sheet_word ds) n := by
  obtain ⟨l, rfl, hlen, h⟩ := h
  unfold t_is_sheet_word
  simp only [dSeq, dNext, dIfS, dTest, dOp, dVar, dC, dRet, dRetN, dGet, dAnd, dOr, dNot, dAndV, dOrV, dNotV, dIf, dNil, dCons, dTup, dLst, dCB, dM0, dM1, dDrop, dAsg, dgName, dPar, dCal, dChain, dRaise, dRaise2, dFor, diSeq, items, diRange1, diRange2, dLc, dYes, dgTup, dgCons, dgNil, dSl, dPart, dNoPart, dNeg, dPenC, dPenA, dPenL, dPutA, dPutL, dFld, dgFld, dNew, dMet, dLstM, dFrz, dApp, dgIx, dAug, startD, List.map_cons, List.map_nil, List.length_cons, List.length_nil, List.replicate, Nat.reduceAdd, Nat.reduceSub, List.cons_append, List.nil_append, List.append_nil, List.set_cons_zero, List.set_cons_succ, List.getElem?_cons_zero, List.getElem?_cons_succ, gLe, gOrd, gLen]
  refine ⟨by omega, ?_⟩
  have c1 : ((1 : Int) ≤ ((l.length : Nat) : Int)) ↔ 1 ≤ l.length := by omega
  have c2 : (((l.length : Nat) : Int) ≤ (12 : Int)) ↔ l.length ≤ 12 := by omega
  cases l with
  | nil => exact h
  | cons c r =>
    simp only [c1, c2]
    unfold sheetOk at h
    rw [show decide (1 ≤ (c :: r).length) = true from decide_eq_true (by simp)] at h ⊢
    by_cases b : (c :: r).length ≤ 12
    · simp only [b, decide_true, Bool.true_and] at h ⊢
      simp only [gIx]
      refine ⟨by simp only [List.length_cons] at hlen ⊢; omega, c, at0 c r, trivial, c, rfl, ?_⟩
      cases hc : isLet c with
      | false =>
        rw [hc, Bool.false_and] at h
        exact h
      | true =>
        rw [hc, Bool.true_and] at h
        refine lc_signs (f := fun c => isLet c || isDig c) (c :: r) (fun x hx m Q hQ => ?_) (by omega) ?_
        · simp only [dSeq, dNext, dIfS, dTest, dOp, dVar, dC, dRet, dRetN, dGet, dAnd, dOr, dNot, dAndV, dOrV, dNotV, dIf, dNil, dCons, dTup, dLst, dCB, dM0, dM1, dDrop, dAsg, dgName, dPar, dCal, dChain, dRaise, dRaise2, dFor, diSeq, items, diRange1, diRange2, dLc, dYes, dgTup, dgCons, dgNil, dSl, dPart, dNoPart, dNeg, dPenC, dPenA, dPenL, dPutA, dPutL, dFld, dgFld, dNew, dMet, dLstM, dFrz, dApp, dgIx, dAug, startD, List.map_cons, List.map_nil, List.length_cons, List.length_nil, List.replicate, Nat.reduceAdd, Nat.reduceSub, List.cons_append, List.nil_append, List.append_nil, List.set_cons_zero, List.set_cons_succ, List.getElem?_cons_zero, List.getElem?_cons_succ, wipeD]
          refine ⟨trivial, x, rfl, ?_⟩
          cases hx : isLet x with
          | true =>
            rw [hx, Bool.true_or] at hQ
            exact hQ
          | false =>
            rw [hx, Bool.false_or] at hQ
            exact ⟨trivial, x, rfl, hQ⟩
        · simp only [gAll, blsD_map, all_map]
          exact h
    · simp only [b, decide_false, Bool.and_false, Bool.false_and] at h ⊢
      exact h
theorem dig_all {l : List Nat} (h : l.all isDig = true) : PySem.NumText.AllDigits l := fun c hc => by
  have := List.all_eq_true.mp h c hc
  unfold isDig at this
  simpa using this
theorem int_of {l : List Nat} (h : l.all isDig = true) (h1 : l ≠ []) (h2 : l.length ≤ 640) : PySem.intText? (DL.S l) = some ((PySem.NumText.digitsVal l : Nat) : Int) := by
  have := PySem.intText_digits (x := DL.S l) (by rw [S_cps]; exact dig_all h) (by rw [S_cps]; exact h1) (by rw [S_len]; omega)
  rw [S_cps] at this
  exact this
/-! ### letters -/
def bnd : Nat → Nat
  | 0 => 0
  | k + 1 => 26 * (bnd k + 1)
theorem look26 : ∀ i : Nat, i < 26 → atI LET (i : Int) = some (65 + i) := by decide
theorem lets0 : ∀ k, lets k 0 = []
  | 0 => rfl
  | k + 1 => rfl
theorem letsS {k r : Nat} (h : 0 < r) : lets (k + 1) r = lets k ((r - 1) / 26) ++ [65 + (r - 1) % 26] := by
  show (if r = 0 then [] else _) = _
  rw [if_neg (by omega)]
theorem bndS {k r : Nat} (h : 0 < r) (hb : r ≤ bnd (k + 1)) : (r - 1) / 26 ≤ bnd k := by
  have : bnd (k + 1) = 26 * (bnd k + 1) := rfl
  omega
theorem cast_sub {r : Nat} (h : 0 < r) : ((r : Int) - 1) = ((r - 1 : Nat) : Int) := by omega
theorem cast_mod (r : Nat) : ((r : Nat) : Int) % 26 = ((r % 26 : Nat) : Int) := by omega
theorem cast_div (r : Nat) : ((r : Nat) : Int) / 26 = ((r / 26 : Nat) : Int) := by omega
theorem upLet {c : Nat} (h : isLet c = true) : ∃ i, i < 26 ∧ up1 c = 65 + i := by
  unfold isLet at h
  simp only [Bool.or_eq_true, Bool.and_eq_true, decide_eq_true_eq] at h
  unfold up1
  rcases h with ⟨h1, h2⟩ | ⟨h1, h2⟩
  · rw [if_pos ⟨h1, h2⟩]
    exact ⟨c - 97, by omega, by omega⟩
  · rw [if_neg (by omega)]
    exact ⟨c - 65, by omega, by omega⟩
theorem isLet_small {c : Nat} (h : isLet c = true) : c < 128 := by
  unfold isLet at h
  simp only [Bool.or_eq_true, Bool.and_eq_true, decide_eq_true_eq] at h
  omega
theorem occ26 : ∀ i : Nat, i < 26 → Builtin.Str.occurrences (DL.S LET) (DL.S [65 + i]) 0 (DL.S LET).length 1 = [i] := by decide +kernel
theorem numU_snoc (l : List Nat) (c : Nat) : numU (l ++ [c]) = numU l * 26 + (up1 c - 65) + 1 := by
  unfold numU
  rw [List.foldl_append]
  rfl
theorem p_is_on_grid (ds : List D) (n : NS) (q : D → NS → Prop) (e : DY) (hl : ds.length = 2) (h : s_is_on_grid A ds n q e) : t_is_on_grid K A cs { nx := fun _ n' => q .non n', rt := q, ex := fun _ => e } (startD N_is_on_grid ds) n := by
  obtain ⟨r, c, rfl, h⟩ := h
  unfold t_is_on_grid
  simp only [dSeq, dNext, dIfS, dTest, dOp, dVar, dC, dRet, dRetN, dGet, dAnd, dOr, dNot, dAndV, dOrV, dNotV, dIf, dNil, dCons, dTup, dLst, dCB, dM0, dM1, dDrop, dAsg, dgName, dPar, dCal, dChain, dRaise, dRaise2, dFor, diSeq, items, diRange1, diRange2, dLc, dYes, dgTup, dgCons, dgNil, dSl, dPart, dNoPart, dNeg, dPenC, dPenA, dPenL, dPutA, dPutL, dFld, dgFld, dNew, dMet, dLstM, dFrz, dApp, dgIx, dAug, startD, List.map_cons, List.map_nil, List.length_cons, List.length_nil, List.replicate, Nat.reduceAdd, Nat.reduceSub, List.cons_append, List.nil_append, List.append_nil, List.set_cons_zero, List.set_cons_succ, List.getElem?_cons_zero, List.getElem?_cons_succ, gLe, gOrd]
  unfold onGrid at h
  by_cases a : 1 ≤ r <;> by_cases b : r ≤ 1000000 <;> by_cases d : 1 ≤ c <;> by_cases f : c ≤ 18278 <;> simp only [a, b, d, f, decide_true, decide_false, Bool.and_true, Bool.and_false, Bool.and_self] at h ⊢ <;> exact h
theorem p_need_sheet_word (ds : List D) (n : NS) (q : D → NS → Prop) (e : DY) (hl : ds.length = 1) (h : s_need_sheet_word A ds n q e) : t_need_sheet_word K A cs { nx := fun _ n' => q .non n', rt := q, ex := fun _ => e } (startD N_need_sheet_word ds) n := by
  obtain ⟨x, rfl, ⟨hk, hs⟩, h1, h2⟩ := h
  unfold t_need_sheet_word
  simp only [dSeq, dNext, dIfS, dTest, dOp, dVar, dC, dRet, dRetN, dGet, dAnd, dOr, dNot, dAndV, dOrV, dNotV, dIf, dNil, dCons, dTup, dLst, dCB, dM0, dM1, dDrop, dAsg, dgName, dPar, dCal, dChain, dRaise, dRaise2, dFor, diSeq, items, diRange1, diRange2, dLc, dYes, dgTup, dgCons, dgNil, dSl, dPart, dNoPart, dNeg, dPenC, dPenA, dPenL, dPutA, dPutL, dFld, dgFld, dNew, dMet, dLstM, dFrz, dApp, dgIx, dAug, startD, List.map_cons, List.map_nil, List.length_cons, List.length_nil, List.replicate, Nat.reduceAdd, Nat.reduceSub, List.cons_append, List.nil_append, List.append_nil, List.set_cons_zero, List.set_cons_succ, List.getElem?_cons_zero, List.getElem?_cons_succ, gNotN]
  refine ⟨trivial, ?_⟩
  cases x <;> first | (simp [kindD] at hk; done) | skip
  all_goals simp only [gIsi, isiD, kindD, isNon, kit_int_int, kit_int_bool, kit_int_str, kit_int_list, kit_int_tuple, kit_bool_int, kit_bool_bool, kit_bool_str, kit_bool_list, kit_bool_tuple, kit_str_int, kit_str_bool, kit_str_str, kit_str_list, kit_str_tuple, kit_non_int, kit_non_bool, kit_non_str, kit_non_list, kit_non_tuple, kit_list_int, kit_list_bool, kit_list_str, kit_list_list, kit_list_tuple, kit_tuple_int, kit_tuple_bool, kit_tuple_str, kit_tuple_list, kit_tuple_tuple, Bool.not_false, Bool.not_true]
  case non => exact h1 rfl
  case str l =>
    refine ⟨trivial, l, rfl, hs l rfl, ?_⟩
    cases hx : sheetOk l with
    | true => exact h1 hx
    | false => exact ⟨trivial, h2 hx⟩
  all_goals exact ⟨trivial, h2 rfl⟩
theorem p_same_sheets (ds : List D) (n : NS) (q : D → NS → Prop) (e : DY) (hl : ds.length = 2) (h : s_same_sheets A ds n q e) : t_same_sheets K A cs { nx := fun _ n' => q .non n', rt := q, ex := fun _ => e } (startD N_same_sheets ds) n := by
  obtain ⟨a, b, rfl, ha, hb, h⟩ := h
  unfold t_same_sheets
  simp only [dSeq, dNext, dIfS, dTest, dOp, dVar, dC, dRet, dRetN, dGet, dAnd, dOr, dNot, dAndV, dOrV, dNotV, dIf, dNil, dCons, dTup, dLst, dCB, dM0, dM1, dDrop, dAsg, dgName, dPar, dCal, dChain, dRaise, dRaise2, dFor, diSeq, items, diRange1, diRange2, dLc, dYes, dgTup, dgCons, dgNil, dSl, dPart, dNoPart, dNeg, dPenC, dPenA, dPenL, dPutA, dPutL, dFld, dgFld, dNew, dMet, dLstM, dFrz, dApp, dgIx, dAug, startD, List.map_cons, List.map_nil, List.length_cons, List.length_nil, List.replicate, Nat.reduceAdd, Nat.reduceSub, List.cons_append, List.nil_append, List.append_nil, List.set_cons_zero, List.set_cons_succ, List.getElem?_cons_zero, List.getElem?_cons_succ, gIsN]
  cases a with
  | none => cases b <;> exact ⟨trivial, trivial, trivial, h⟩
  | some a =>
    cases b with
    | none => exact ⟨trivial, trivial, trivial, h⟩
    | some b =>
      obtain ⟨a1, a2⟩ := ha a rfl
      obtain ⟨b1, b2⟩ := hb b rfl
      refine ⟨trivial, trivial, ?_⟩
      simp only [shD, gLower, gEq, eqD, scEq]
      exact ⟨by omega, a1, by omega, b1, h⟩
end
end K17

set_option Elab.async false
set_option linter.all false
set_option maxRecDepth 100000
set_option maxHeartbeats 8000000
set_option autoImplicit false
namespace K17
open PySem PySem.Spec PyProof.Rows L2 DL
/-! ### digits -/
theorem digc : ∀ d, d < 10 → (Nat.digitChar d).toNat = 48 + d := by decide
theorem decN_small {m : Nat} (h : m < 10) : decN m = [48 + m] := by
  unfold decN
  rw [Nat.toDigits_of_lt_base h]
  show [(Nat.digitChar m).toNat] = _
  rw [digc m h]
theorem decN_step {m : Nat} (h : 0 < m / 10) : decN m = decN (m / 10) ++ [48 + m % 10] := by
  have hm : m % 10 < 10 := Nat.mod_lt _ (by decide)
  have t : Nat.toDigits 10 (m / 10) ++ Nat.toDigits 10 (m % 10) = Nat.toDigits 10 (10 * (m / 10) + m % 10) := Nat.toDigits_append_toDigits (by decide) h hm
  rw [Nat.div_add_mod] at t
  have e := decN_small hm
  unfold decN at e ⊢
  rw [← t, List.map_append, e]
theorem decN_facts : ∀ (k m : Nat), m < 10 ^ (k + 1) → (decN m).length ≤ k + 1 ∧ 1 ≤ (decN m).length ∧ (decN m).all isDig = true ∧ PySem.NumText.digitsVal (decN m) = m ∧ (0 < m → ∃ c r, decN m = c :: r ∧ c ≠ 48)
  | 0, m, h => by
    have h' : m < 10 := by simpa using h
    rw [decN_small h']
    refine ⟨by simp, by simp, by simp [isDig]; omega, ?_, fun h0 => ⟨_, _, rfl, by omega⟩⟩
    show 0 * 10 + (48 + m - 48) = m
    omega
  | k + 1, m, h => by
    by_cases d : 0 < m / 10
    · obtain ⟨h1, h2, h3, h4, h5⟩ := decN_facts k (m / 10) (by rw [Nat.pow_succ] at h; omega)
      rw [decN_step d]
      refine ⟨by simp only [List.length_append, List.length_cons, List.length_nil]; omega, by simp only [List.length_append, List.length_cons, List.length_nil]; omega, ?_, ?_, fun _ => ?_⟩
      · rw [List.all_append, h3]
        simp [isDig]
        omega
      · unfold PySem.NumText.digitsVal at h4 ⊢
        rw [List.foldl_append, h4]
        show m / 10 * 10 + (48 + m % 10 - 48) = m
        omega
      · obtain ⟨c, r, e, hc⟩ := h5 d
        exact ⟨c, r ++ [48 + m % 10], by rw [e]; rfl, hc⟩
    · have h' : m < 10 := by omega
      rw [decN_small h']
      refine ⟨by simp, by simp, by simp [isDig]; omega, ?_, fun h0 => ⟨_, _, rfl, by omega⟩⟩
      show 0 * 10 + (48 + m - 48) = m
      omega
/-- the digits of a row -/
structure RowF (r : Int) : Prop where
  len : (decI r).length ≤ 7
  ok : rowOk (decI r) = true
  dig : (decI r).all isDig = true
  val : ((PySem.NumText.digitsVal (decI r) : Nat) : Int) = r
  small : r.natAbs.log2 < 1920
  ne : ∃ c l, decI r = c :: l ∧ isDig c = true
theorem rowF {r : Int} (h1 : 1 ≤ r) (h2 : r ≤ 1000000) : RowF r := by
  obtain ⟨m, rfl⟩ : ∃ m : Nat, r = m := ⟨r.toNat, by omega⟩
  have e : decI (m : Int) = decN m := by
    unfold decI
    rw [if_neg (by omega)]
    rfl
  obtain ⟨f1, f2, f3, f4, f5⟩ := decN_facts 6 m (by omega)
  obtain ⟨c, l, ec, hc⟩ := f5 (by omega)
  refine ⟨by rw [e]; exact f1, ?_, by rw [e]; exact f3, by rw [e, f4], ?_, c, l, by rw [e, ec], ?_⟩
  · rw [e]
    unfold rowOk
    rw [f4, ec]
    rw [ec] at f1 f2
    simp only [Bool.and_eq_true, decide_eq_true_eq]
    exact ⟨⟨⟨f2, f1⟩, by simp [hc]⟩, by omega⟩
  · rw [Int.natAbs_natCast]
    have : m.log2 < 20 := (Nat.log2_lt (by omega)).mpr (by omega)
    omega
  · rw [ec, List.all_cons, Bool.and_eq_true] at f3
    exact f3.1
theorem lets_len : ∀ k c, (lets k c).length ≤ k
  | 0, c => by simp [lets]
  | k + 1, c => by
    unfold lets
    split
    · simp
    · rw [List.length_append]
      have := lets_len k ((c - 1) / 26)
      simp only [List.length_cons, List.length_nil]
      omega
theorem dollar_len (f : Bool) : (dollar f).length ≤ 1 := by cases f <;> simp [dollar]
theorem grid_of {r c : Int} (h : onGrid r c = true) : 1 ≤ r ∧ r ≤ 1000000 ∧ 1 ≤ c ∧ c ≤ 18278 := by
  unfold onGrid at h
  simp only [Bool.and_eq_true, decide_eq_true_eq] at h
  exact ⟨h.1.1, h.1.2, h.2.1, h.2.2⟩
theorem grid_iff {r c : Int} : onGrid r c = true ↔ 1 ≤ r ∧ r ≤ 1000000 ∧ 1 ≤ c ∧ c ≤ 18278 := by
  unfold onGrid
  simp only [Bool.and_eq_true, decide_eq_true_eq]
  constructor
  · exact fun h => ⟨h.1.1, h.1.2, h.2.1, h.2.2⟩
  · exact fun h => ⟨⟨h.1, h.2.1⟩, h.2.2.1, h.2.2.2⟩
theorem sheet_len {l : List Nat} (h : sheetOk l = true) : 1 ≤ l.length ∧ l.length ≤ 12 := by
  unfold sheetOk at h
  simp only [Bool.and_eq_true, decide_eq_true_eq] at h
  exact h.1.1
theorem kd_sh {sh : Option (List Nat)} (h : shOk sh) : kd (shD sh) ∧ shOkD (shD sh) = true := by
  cases sh with
  | none => exact ⟨⟨rfl, fun l e => by cases e⟩, rfl⟩
  | some l => exact ⟨⟨rfl, fun l' e => by cases e; have := sheet_len (h l rfl); omega⟩, h l rfl⟩
theorem kd_int (i : Int) : kd (.int i) := ⟨rfl, fun l e => by cases e⟩
theorem kd_bl (b : Bool) : kd (.bl b) := ⟨rfl, fun l e => by cases e⟩
theorem bad_good {r c : Int} {f g : Bool} {sh : Option (List Nat)} (h : shOk sh) : badOf (.int r) (.int c) (.bl f) (.bl g) (shD sh) = none := by
  unfold badOf
  rw [(kd_sh h).2]
  rfl
/-- Address(r, c, ..) of good things -/
theorem adr_good {A : Ad} {r c : Int} {f g : Bool} {sh : Option (List Nat)} {q : Prop} {e : DY} {n : NS} (h : shOk sh) (h1 : onGrid r c = true → q) (h2 : onGrid r c = false → e A.OffGrid ["row", "column"] [.int r, .int c] n) : adrEnd A (.int r) (.int c) (.bl f) (.bl g) (shD sh) q e n := by
  refine ⟨⟨kd_int r, kd_int c, kd_bl f, kd_bl g, (kd_sh h).1⟩, fun b hb => ?_, fun _ r' c' er ec => ?_⟩
  · rw [bad_good h] at hb
    cases hb
  · cases er; cases ec
    exact ⟨h1, h2⟩
/-! ### slices -/
theorem cut_to {α : Type} (l : List α) (j : Nat) : cutL l none (some (j : Int)) = l.take j := by
  unfold cutL
  rw [HT.sIx_nat, HT.sIx_none, List.drop_zero, Nat.sub_zero]
  rcases Nat.le_total j l.length with h | h
  · rw [Nat.min_eq_left h]
  · rw [Nat.min_eq_right h, List.take_length, List.take_of_length_le h]
theorem cut_from {α : Type} (l : List α) (j : Nat) : cutL l (some (j : Int)) none = l.drop j := by
  unfold cutL
  rw [HT.sIx_nat, HT.sIx_none]
  rcases Nat.le_total j l.length with h | h
  · rw [Nat.min_eq_left h, List.take_of_length_le (by rw [List.length_drop]; omega)]
  · rw [Nat.min_eq_right h, Nat.sub_self, List.take_zero, List.drop_of_length_le h]
theorem cut_1to {α : Type} (l : List α) : cutL l none (some 1) = l.take 1 := cut_to l 1
theorem cut_1from {α : Type} (l : List α) : cutL l (some 1) none = l.drop 1 := cut_from l 1
section
variable {P : Program} {K : PySem.W.Frag} {mg : Str → Option Value} {A : Ad} {cs : List Int}
/-! ### Address(..) -/
theorem p_Address_init (ds : List D) (n : NS) (q : D → NS → Prop) (e : DY) (hl : ds.length = 6) (h : s_Address_init A ds n q e) : t_Address_init K A cs { nx := fun _ n' => q .non n', rt := q, ex := fun _ => e } (startD N_Address_init ds) n := by
  obtain ⟨a, dx, x1, x2, x3, x4, x5, rfl, hm, ⟨k1, k2, k3, k4, k5⟩, hb, hg⟩ := h
  unfold badOf at hb hg
  unfold t_Address_init
  simp only [dSeq, dNext, dIfS, dTest, dOp, dVar, dC, dRet, dRetN, dGet, dAnd, dOr, dNot, dAndV, dOrV, dNotV, dIf, dNil, dCons, dTup, dLst, dCB, dM0, dM1, dDrop, dAsg, dgName, dPar, dCal, dChain, dRaise, dRaise2, dFor, diSeq, items, diRange1, diRange2, dLc, dYes, dgTup, dgCons, dgNil, dSl, dPart, dNoPart, dNeg, dPenC, dPenA, dPenL, dPutA, dPutL, dFld, dgFld, dNew, dMet, dLstM, dFrz, dApp, dgIx, dAug, startD, List.map_cons, List.map_nil, List.length_cons, List.length_nil, List.replicate, Nat.reduceAdd, Nat.reduceSub, List.cons_append, List.nil_append, List.append_nil, List.set_cons_zero, List.set_cons_succ, List.getElem?_cons_zero, List.getElem?_cons_succ]
  refine ⟨trivial, x1, rfl, k1.1, fun i1 => ?_, fun i1 => hb _ (if_pos i1)⟩
  have z1 : ¬ isIntD x1 = false := by rw [i1]; exact Bool.noConfusion
  rw [if_neg z1] at hb hg
  refine ⟨trivial, x2, rfl, k2.1, fun i2 => ?_, fun i2 => hb _ (if_pos i2)⟩
  have z2 : ¬ isIntD x2 = false := by rw [i2]; exact Bool.noConfusion
  rw [if_neg z2] at hb hg
  refine ⟨trivial, x3, rfl, k3.1, fun i3 => ?_, fun i3 => hb _ (if_pos i3)⟩
  have z3 : ¬ isBlD x3 = false := by rw [i3]; exact Bool.noConfusion
  rw [if_neg z3] at hb hg
  refine ⟨trivial, x4, rfl, k4.1, fun i4 => ?_, fun i4 => hb _ (if_pos i4)⟩
  have z4 : ¬ isBlD x4 = false := by rw [i4]; exact Bool.noConfusion
  rw [if_neg z4] at hb hg
  refine ⟨trivial, x5, rfl, k5, fun i5 => ?_, fun i5 => hb _ (if_pos i5)⟩
  have z5 : ¬ shOkD x5 = false := by rw [i5]; exact Bool.noConfusion
  rw [if_neg z5] at hg
  cases x1 <;> simp only [isIntD, reduceCtorEq] at i1
  cases x2 <;> simp only [isIntD, reduceCtorEq] at i2
  rename_i r c
  obtain ⟨g1, g2⟩ := hg rfl r c rfl rfl
  refine ⟨trivial, r, c, rfl, ?_⟩
  cases ho : onGrid r c with
  | false => exact ⟨trivial, g2 ho⟩
  | true =>
    simp only [Bool.not_true]
    refine ⟨by decide, trivial, A.Address, dx, [], [], hm, by simp, by simp, by simp, ?_⟩
    refine ⟨A.Address, dx, _, _, mup_same, by simp, by decide, by simp, ?_⟩
    refine ⟨by decide, trivial, A.Address, dx, _, _, mup_same, by simp, by decide, by simp, ?_⟩
    refine ⟨A.Address, dx, _, _, mup_same, by simp, by decide, by simp, ?_⟩
    refine ⟨A.Address, dx, _, _, mup_same, by simp, by decide, by simp, ?_⟩
    simp only [mup_mup]
    exact g1 ho
theorem new_Address : NewOk A.Address (s_Address_init A) (s_Address A) := by
  intro ds n q e h a dx ha
  obtain ⟨x1, x2, x3, x4, x5, rfl, kk, hb, hg⟩ := h
  have back : mup (mup n.mu a (some (.ins A.Address dx [] []))) a none = n.mu := by rw [mup_mup, mup_back ha]
  refine ⟨a, dx, x1, x2, x3, x4, x5, rfl, mup_same, kk, fun b z => ?_, fun z r c e1 e2 => ⟨fun g => ?_, fun g => ?_⟩⟩
  · simp only [back]
    exact hb b z
  · refine ⟨rfl, _, _, _, mup_same, ?_⟩
    simp only [mup_mup, mup_back ha]
    exact (hg z r c e1 e2).1 g
  · simp only [back]
    exact (hg z r c e1 e2).2 g
theorem isi_adr (T : Txt P K mg A) {p : Pl} {k : Bool → Prop} (h : k true) : isiD K (adrD A p) (.ref A.Address) k := ⟨.ref A.Address, .ref A.Address, true, .inr ⟨_, _, _, rfl, rfl, T.i_A⟩, rfl, T.k_A, h⟩
theorem isi_kd (T : Txt P K mg A) {x : D} {k : Bool → Prop} (hk : (kindD x).isSome = true) (h : k false) : isiD K x (.ref A.Address) k := by
  cases x <;> first | (simp [kindD] at hk; done) | skip
  · exact ⟨.type "NoneType", .ref A.Address, false, .inl ⟨_, rfl, rfl⟩, rfl, T.k_NoneType, h⟩
  · exact ⟨.type "bool", .ref A.Address, false, .inl ⟨_, rfl, rfl⟩, rfl, T.k_bool, h⟩
  · exact ⟨.type "int", .ref A.Address, false, .inl ⟨_, rfl, rfl⟩, rfl, T.k_int, h⟩
  · exact ⟨.type "str", .ref A.Address, false, .inl ⟨_, rfl, rfl⟩, rfl, T.k_str, h⟩
  · exact ⟨.type "list", .ref A.Address, false, .inl ⟨_, rfl, rfl⟩, rfl, T.k_list, h⟩
  · exact ⟨.type "tuple", .ref A.Address, false, .inl ⟨_, rfl, rfl⟩, rfl, T.k_tuple, h⟩
theorem p_need_address (T : Txt P K mg A) (ds : List D) (n : NS) (q : D → NS → Prop) (e : DY) (hl : ds.length = 1) (h : s_need_address A ds n q e) : t_need_address K A cs { nx := fun _ n' => q .non n', rt := q, ex := fun _ => e } (startD N_need_address ds) n := by
  obtain ⟨x, rfl, h⟩ := h
  unfold t_need_address
  simp only [dSeq, dNext, dIfS, dTest, dOp, dVar, dC, dRet, dRetN, dGet, dAnd, dOr, dNot, dAndV, dOrV, dNotV, dIf, dNil, dCons, dTup, dLst, dCB, dM0, dM1, dDrop, dAsg, dgName, dPar, dCal, dChain, dRaise, dRaise2, dFor, diSeq, items, diRange1, diRange2, dLc, dYes, dgTup, dgCons, dgNil, dSl, dPart, dNoPart, dNeg, dPenC, dPenA, dPenL, dPutA, dPutL, dFld, dgFld, dNew, dMet, dLstM, dFrz, dApp, dgIx, dAug, startD, List.map_cons, List.map_nil, List.length_cons, List.length_nil, List.replicate, Nat.reduceAdd, Nat.reduceSub, List.cons_append, List.nil_append, List.append_nil, List.set_cons_zero, List.set_cons_succ, List.getElem?_cons_zero, List.getElem?_cons_succ, gIsi]
  rcases h with ⟨p, rfl, h⟩ | ⟨hk, h⟩
  · exact isi_adr T h
  · exact isi_kd T hk ⟨trivial, h⟩
theorem col_len (c : Int) (f : Bool) : (colText c f).length ≤ 4 := by
  unfold colText lettersN
  rw [List.length_append]
  have := lets_len 3 c.toNat
  have := dollar_len f
  omega
theorem row_len {r : Int} (f : Bool) (R : RowF r) : (rowText r f).length ≤ 8 := by
  unfold rowText
  rw [List.length_append]
  have := R.len
  have := dollar_len f
  omega
theorem cell_len {p : Pl} (hp : PlOk p) : (cellText p).length ≤ 12 := by
  obtain ⟨g1, g2, g3, g4⟩ := grid_of hp.g
  unfold cellText
  rw [List.length_append]
  have := col_len p.c p.fc
  have := row_len p.fr (rowF g1 g2)
  omega
theorem sh_len {sh : Option (List Nat)} (h : shOk sh) : (shText sh).length ≤ 13 := by
  cases sh with
  | none => simp [shText]
  | some l =>
    have := sheet_len (h l rfl)
    simp only [shText, List.length_append, List.length_cons, List.length_nil]
    omega
theorem text_len {p : Pl} (hp : PlOk p) : (textOf p).length ≤ 25 := by
  unfold textOf
  rw [List.length_append]
  have := cell_len hp
  have := sh_len hp.s
  omega
theorem unm_len (l : List Nat) : (unm l).length ≤ l.length := by
  unfold unm
  split
  · rw [List.length_drop]; omega
  · exact Nat.le_refl _
end
end K17

set_option Elab.async false
set_option linter.all false
set_option maxRecDepth 100000
set_option maxHeartbeats 8000000
set_option autoImplicit false
namespace K17
open PySem PySem.Spec PyProof.Rows L2 DL
section
variable {P : Program} {K : PySem.W.Frag} {mg : Str → Option Value} {A : Ad} {cs : List Int}
/-! ### where a cell's text parts -/
theorem tw_cons {c : Nat} {r : List Nat} (h : isLet c = true) : (c :: r).takeWhile isLet = c :: r.takeWhile isLet := List.takeWhile_cons_of_pos h
theorem tw_no {c : Nat} {r : List Nat} (h : isLet c = false) : (c :: r).takeWhile isLet = [] := List.takeWhile_cons_of_neg (by rw [h]; exact Bool.noConfusion)
theorem hasD_cons (c : Nat) (r : List Nat) : hasD (c :: r) = decide (c = 36) := by
  unfold hasD
  simp
theorem split_d (r : List Nat) : splitN (36 :: r) = 1 + (r.takeWhile isLet).length := by
  have h : hasD (36 :: r) = true := by rw [hasD_cons]; rfl
  unfold splitN unm
  rw [if_pos h]
  simp only [List.drop_succ_cons, List.drop_zero, List.length_cons]
  omega
theorem split_n {c : Nat} {r : List Nat} (h : c ≠ 36) : splitN (c :: r) = ((c :: r).takeWhile isLet).length := by
  have h : ¬ hasD (c :: r) = true := by rw [hasD_cons]; simpa using h
  unfold splitN unm
  rw [if_neg h]
  omega
theorem split_nil : splitN [] = 0 := by decide
/-- how many more are taken behind p -/
def SplitI (l p r : List Nat) : Prop := l = p ++ r ∧ (p = [] ∨ splitN l = p.length + (r.takeWhile isLet).length)
theorem SplitI.go {l p r : List Nat} {c : Nat} (h : SplitI l p (c :: r)) (hc : isLet c = true ∨ (p = [] ∧ c = 36)) : SplitI l (p ++ [c]) r := by
  obtain ⟨rfl, h⟩ := h
  refine ⟨by rw [List.append_assoc]; rfl, .inr ?_⟩
  rw [List.length_append, List.length_cons, List.length_nil]
  by_cases hp : p = []
  · subst hp
    rw [List.nil_append]
    by_cases z : c = 36
    · subst z
      rw [split_d]
      rfl
    · rcases hc with hc | ⟨_, hc⟩
      · rw [split_n z, tw_cons hc, List.length_cons, List.length_nil]
        omega
      · exact absurd hc z
  · rcases h with h | h
    · exact absurd h hp
    · rcases hc with hc | ⟨hc, _⟩
      · rw [h, tw_cons hc, List.length_cons]
        omega
      · exact absurd hc hp
theorem SplitI.stop {l p r : List Nat} (h : SplitI l p r) (hr : ∀ c r', r = c :: r' → isLet c = false ∧ ¬ (p = [] ∧ c = 36)) : p.length = splitN l := by
  obtain ⟨rfl, h⟩ := h
  cases r with
  | nil =>
    rcases h with h | h
    · subst h
      rfl
    · rw [h]
      rfl
  | cons c r =>
    obtain ⟨h1, h2⟩ := hr c r rfl
    rcases h with h | h
    · subst h
      have z : c ≠ 36 := fun z => h2 ⟨rfl, z⟩
      rw [List.nil_append, split_n z, tw_no h1]
    · rw [h, tw_no h1]
      rfl
/-! ### numbers of good texts -/
theorem numU_ge (l : List Nat) : ∀ a, a ≤ l.foldl (fun a c => a * 26 + (up1 c - 65) + 1) a := by
  induction l with
  | nil => intro a; exact Nat.le_refl _
  | cons c l ih =>
    intro a
    rw [List.foldl_cons]
    exact Nat.le_trans (by omega) (ih _)
theorem col_range {l : List Nat} (h : colOk l = true) : 1 ≤ numU l ∧ numU l ≤ 18278 := by
  unfold colOk at h
  simp only [Bool.and_eq_true, decide_eq_true_eq, List.all_eq_true] at h
  obtain ⟨⟨h1, h2⟩, h3⟩ := h
  have up : ∀ c ∈ l, ∃ i, i < 26 ∧ up1 c = 65 + i := fun c hc => upLet (h3 c hc)
  match l, h1, h2, up with
  | [a], _, _, up =>
    obtain ⟨i, hi, e⟩ := up a (by simp)
    show 1 ≤ 0 * 26 + (up1 a - 65) + 1 ∧ 0 * 26 + (up1 a - 65) + 1 ≤ 18278
    omega
  | [a, b], _, _, up =>
    obtain ⟨i, hi, e⟩ := up a (by simp)
    obtain ⟨j, hj, f⟩ := up b (by simp)
    show 1 ≤ (0 * 26 + (up1 a - 65) + 1) * 26 + (up1 b - 65) + 1 ∧ (0 * 26 + (up1 a - 65) + 1) * 26 + (up1 b - 65) + 1 ≤ 18278
    omega
  | [a, b, c], _, _, up =>
    obtain ⟨i, hi, e⟩ := up a (by simp)
    obtain ⟨j, hj, f⟩ := up b (by simp)
    obtain ⟨k, hk, g⟩ := up c (by simp)
    show 1 ≤ ((0 * 26 + (up1 a - 65) + 1) * 26 + (up1 b - 65) + 1) * 26 + (up1 c - 65) + 1 ∧ ((0 * 26 + (up1 a - 65) + 1) * 26 + (up1 b - 65) + 1) * 26 + (up1 c - 65) + 1 ≤ 18278
    omega
  | _ :: _ :: _ :: _ :: _, _, h2, _ => simp at h2
theorem dv_ge (l : List Nat) : ∀ a, 0 < a → 0 < l.foldl (fun acc c => acc * 10 + (c - 48)) a := by
  induction l with
  | nil => intro a h; exact h
  | cons c l ih =>
    intro a h
    rw [List.foldl_cons]
    exact ih _ (by omega)
theorem row_range {l : List Nat} (h : (l.all isDig && rowOk l) = true) : 1 ≤ PySem.NumText.digitsVal l ∧ PySem.NumText.digitsVal l ≤ 1000000 := by
  rw [Bool.and_eq_true] at h
  obtain ⟨hd, h⟩ := h
  unfold rowOk at h
  simp only [Bool.and_eq_true, decide_eq_true_eq] at h
  obtain ⟨⟨⟨h1, h2⟩, h3⟩, h4⟩ := h
  refine ⟨?_, h4⟩
  cases l with
  | nil => simp at h1
  | cons c r =>
    have hc : c ≠ 48 := by simpa using h3
    rw [List.all_cons, Bool.and_eq_true] at hd
    have hcd := hd.1
    unfold isDig at hcd
    simp only [Bool.and_eq_true, decide_eq_true_eq] at hcd
    exact dv_ge r (0 * 10 + (c - 48)) (by omega)
theorem col_some {l : List Nat} {c : Int × Bool} (h : readCol l = some c) : 1 ≤ c.1 ∧ c.1 ≤ 18278 := by
  unfold readCol at h
  split at h
  · rename_i g
    cases h
    have := col_range g
    show 1 ≤ ((numU (unm l) : Nat) : Int) ∧ ((numU (unm l) : Nat) : Int) ≤ 18278
    omega
  · cases h
theorem row_some {l : List Nat} {r : Int × Bool} (h : readRow l = some r) : 1 ≤ r.1 ∧ r.1 ≤ 1000000 := by
  unfold readRow at h
  split at h
  · rename_i g
    cases h
    have := row_range g
    show 1 ≤ ((PySem.NumText.digitsVal (unm l) : Nat) : Int) ∧ ((PySem.NumText.digitsVal (unm l) : Nat) : Int) ≤ 1000000
    omega
  · cases h
/-! ### sheets -/
theorem part_len (c : Nat) (l : List Nat) : (partL c l).1.length ≤ l.length ∧ (partL c l).2.2.length ≤ l.length := by
  unfold partL
  split
  · refine ⟨List.takeWhile_prefix _ |>.length_le, ?_⟩
    show (l.dropWhile (· != c)).tail.length ≤ l.length
    rw [List.length_tail]
    have := (List.dropWhile_suffix (· != c) (l := l)).length_le
    omega
  · exact ⟨Nat.le_refl _, Nat.zero_le _⟩
theorem parted_ok {l : List Nat} {sh : Option (List Nat)} {r : List Nat} (h : parted l = some (sh, r)) : shOk sh ∧ r.length ≤ l.length := by
  unfold parted at h
  have hp := part_len 33 l
  split at h
  · split at h
    · rename_i hs
      cases h
      exact ⟨fun x e => by cases e; exact hs, hp.2⟩
    · cases h
  · cases h
    exact ⟨fun x e => (by cases e), Nat.le_refl _⟩
/-! ### the methods -/
theorem p_Address_eq (T : Txt P K mg A) (ds : List D) (n : NS) (q : D → NS → Prop) (e : DY) (hl : ds.length = 2) (h : s_Address_eq A ds n q e) : t_Address_eq K A cs { nx := fun _ n' => q .non n', rt := q, ex := fun _ => e } (startD N_Address_eq ds) n := by
  obtain ⟨p, y, rfl, hs, h⟩ := h
  unfold t_Address_eq
  simp only [dSeq, dNext, dIfS, dTest, dOp, dVar, dC, dRet, dRetN, dGet, dAnd, dOr, dNot, dAndV, dOrV, dNotV, dIf, dNil, dCons, dTup, dLst, dCB, dM0, dM1, dDrop, dAsg, dgName, dPar, dCal, dChain, dRaise, dRaise2, dFor, diSeq, items, diRange1, diRange2, dLc, dYes, dgTup, dgCons, dgNil, dSl, dPart, dNoPart, dNeg, dPenC, dPenA, dPenL, dPutA, dPutL, dFld, dgFld, dNew, dMet, dLstM, dFrz, dApp, dgIx, dAug, startD, List.map_cons, List.map_nil, List.length_cons, List.length_nil, List.replicate, Nat.reduceAdd, Nat.reduceSub, List.cons_append, List.nil_append, List.append_nil, List.set_cons_zero, List.set_cons_succ, List.getElem?_cons_zero, List.getElem?_cons_succ, gIsi]
  rcases h with ⟨p', rfl, hs', h⟩ | ⟨hk, h⟩
  · refine isi_adr T ?_
    simp only [Bool.not_true]
    unfold sameA at h
    refine ⟨by simp, .int p.r, rfl, by simp, .int p'.r, rfl, ?_⟩
    simp only [gNe, eqD, scEq]
    by_cases a : p.r = p'.r
    · simp only [a, decide_true, Bool.not_true, Bool.true_and] at h ⊢
      refine ⟨by simp, .int p.c, rfl, by simp, .int p'.c, rfl, ?_⟩
      by_cases b : p.c = p'.c
      · simp only [b, decide_true, Bool.not_true, Bool.true_and] at h ⊢
        refine ⟨by simp, .bl p.fr, rfl, by simp, .bl p'.fr, rfl, ?_⟩
        by_cases c : p.fr = p'.fr
        · simp only [c, decide_true, Bool.not_true, Bool.true_and] at h ⊢
          refine ⟨by simp, .bl p.fc, rfl, by simp, .bl p'.fc, rfl, ?_⟩
          by_cases d : p.fc = p'.fc
          · simp only [d, decide_true, Bool.not_true, Bool.true_and] at h ⊢
            exact ⟨by simp, shD p.sh, rfl, by simp, shD p'.sh, rfl, trivial, _, _, rfl, hs, hs', h⟩
          · simp only [d, decide_false, Bool.not_false, Bool.false_and] at h ⊢
            exact h
        · simp only [c, decide_false, Bool.not_false, Bool.false_and] at h ⊢
          exact h
      · simp only [b, decide_false, Bool.not_false, Bool.false_and] at h ⊢
        exact h
    · simp only [a, decide_false, Bool.not_false, Bool.false_and] at h ⊢
      exact h
  · exact isi_kd T hk h
end
end K17

set_option Elab.async false
set_option linter.all false
set_option maxRecDepth 100000
set_option maxHeartbeats 8000000
set_option autoImplicit false
namespace K17
open PySem PySem.Spec PyProof.Rows L2 DL
section
variable {P : Program} {K : PySem.W.Frag} {mg : Str → Option Value} {A : Ad} {cs : List Int}
def draw6 (cs : List Int) : DTS :=
    (dSeq (dIfS (dAnd (dTest (dOp gLt (dVar 3) (dCB gLen (dCons (dPenC cs (dVar 0)) dNil)))) (dTest (dOp gGe (dVar 4) (dOp gPow (dC (.int 10)) (dC (.int 18)))))) (dSeq (dPutL (dOp gDiv (dOp gSub (dVar 4) (dOp gPow (dC (.int 10)) (dC (.int 18)))) (dVar 1)) (dVar 0))
    (dRet (dOp gMod (dCB gInt (dCons (dOp gSub (dVar 4) (dOp gPow (dC (.int 10)) (dC (.int 18)))) dNil)) (dVar 1)))) dNext)
    (dSeq (dAsg (dOp gAdd (dOp gMul (dOp gMod (dCB gInt (dCons (dVar 4) dNil)) (dC (.int 2147481997))) (dC (.int 45191))) (dOp gMul (dOp gMul (dC (.int 35407)) (dVar 3)) (dVar 3))) (dgName 5))
    (dSeq (dAsg (dOp gMod (dCB gInt (dCons (dOp gAdd (dOp gAdd (dVar 5) (dOp gMul (dC (.int 131)) (dVar 3))) (dC (.int 43))) dNil)) (dC (.int 2147482063))) (dgName 5))
    (dSeq (dAsg (dOp gMod (dCB gInt (dCons (dOp gAdd (dOp gMul (dVar 5) (dOp gAdd (dVar 5) (dC (.int 71069)))) (dOp gMul (dC (.int 11)) (dVar 3))) dNil)) (dC (.int 2147482121))) (dgName 5))
    (dRet (dOp gMod (dCB gInt (dCons (dOp gDiv (dOp gMod (dCB gInt (dCons (dOp gAdd (dOp gMul (dVar 5) (dVar 5)) (dOp gMul (dC (.int 107)) (dVar 5))) dNil)) (dC (.int 2147482223))) (dC (.int 32))) dNil)) (dVar 1)))))))
def draw7 : DTS :=
    (dSeq (dAsg (dOp gAdd (dOp gMul (dOp gMod (dCB gInt (dCons (dVar 4) dNil)) (dC (.int 2147481997))) (dC (.int 45191))) (dOp gMul (dOp gMul (dC (.int 35407)) (dVar 3)) (dVar 3))) (dgName 5))
    (dSeq (dAsg (dOp gMod (dCB gInt (dCons (dOp gAdd (dOp gAdd (dVar 5) (dOp gMul (dC (.int 131)) (dVar 3))) (dC (.int 43))) dNil)) (dC (.int 2147482063))) (dgName 5))
    (dSeq (dAsg (dOp gMod (dCB gInt (dCons (dOp gAdd (dOp gMul (dVar 5) (dOp gAdd (dVar 5) (dC (.int 71069)))) (dOp gMul (dC (.int 11)) (dVar 3))) dNil)) (dC (.int 2147482121))) (dgName 5))
    (dRet (dOp gMod (dCB gInt (dCons (dOp gDiv (dOp gMod (dCB gInt (dCons (dOp gAdd (dOp gMul (dVar 5) (dVar 5)) (dOp gMul (dC (.int 107)) (dVar 5))) dNil)) (dC (.int 2147482223))) (dC (.int 32))) dNil)) (dVar 1))))))
theorem draw_split : t__law_draw K A cs =
  (dSeq (dIfS (dTest (dOp gGe (dPenL (dVar 0)) (dVar 1))) (dSeq (dAsg (dOp gMod (dCB gInt (dCons (dPenL (dVar 0)) dNil)) (dVar 1)) (dgName 2))
    (dSeq (dPutL (dOp gDiv (dPenL (dVar 0)) (dVar 1)) (dVar 0))
    (dRet (dVar 2)))) dNext)
    (dSeq (dAsg (dPenA (dVar 0)) (dgName 3))
    (dSeq (dPutA (dOp gAdd (dVar 3) (dC (.int 1))) (dVar 0))
    (dSeq (dAsg (dOp gAdd (dOp gMul (dC (.int 47)) (dVar 3)) (dC (.int 109))) (dgName 4))
    (dSeq (dIfS (dTest (dOp gNe (dPenC cs (dVar 0)) (dLst dNil))) (dAsg (dOp gIx (dPenC cs (dVar 0)) (dOp gMod (dCB gInt (dCons (dVar 3) dNil)) (dCB gLen (dCons (dPenC cs (dVar 0)) dNil)))) (dgName 4)) dNext)
    (draw6 cs)))))) := rfl
theorem draw6_split : draw6 cs =
    (dSeq (dIfS (dAnd (dTest (dOp gLt (dVar 3) (dCB gLen (dCons (dPenC cs (dVar 0)) dNil)))) (dTest (dOp gGe (dVar 4) (dOp gPow (dC (.int 10)) (dC (.int 18)))))) (dSeq (dPutL (dOp gDiv (dOp gSub (dVar 4) (dOp gPow (dC (.int 10)) (dC (.int 18)))) (dVar 1)) (dVar 0))
    (dRet (dOp gMod (dCB gInt (dCons (dOp gSub (dVar 4) (dOp gPow (dC (.int 10)) (dC (.int 18)))) dNil)) (dVar 1)))) dNext)
    draw7) := rfl
theorem py_ints : ∀ ns : List Int, pyL (ns.map D.int) = some (ns.map PyData.int)
  | [] => rfl
  | n :: ns => by
    simp only [List.map_cons, pyL, py, py_ints ns]
theorem lay_ints : ∀ ns : List Int, PyData.canLayAll0 (ns.map PyData.int) = true ∧ PyData.depthAll (ns.map PyData.int) = 0
  | [] => ⟨rfl, rfl⟩
  | n :: ns => by
    obtain ⟨h1, h2⟩ := lay_ints ns
    simp only [List.map_cons, PyData.canLayAll0, PyData.canLay0, h1, PyData.depthAll, PyData.depth, h2, Bool.and_self, Nat.max_self, and_self]
theorem shaped_int (ns : List Int) : SeqAt.shaped (.list (ns.map PyData.int)) = true := by
  obtain ⟨h1, h2⟩ := lay_ints ns
  simp only [SeqAt.shaped, PyData.canLay0, h1, PyData.depth, h2, Bool.true_and]
  rfl
theorem ne_nil (ns : List Int) (k : Bool → Prop) (h : k (decide (ns = []))) : eqD (.lst (ns.map D.int)) (.lst []) k := by
  refine ⟨.list (ns.map PyData.int), .list [], by simp only [py, py_ints, Option.map_some], rfl, shaped_int ns, shaped_int [], ?_⟩
  cases ns with
  | nil => exact h
  | cons n ns => exact h
theorem bound_mod {x m : Int} (h : 0 < m) : 0 ≤ x % m ∧ x % m < m := ⟨Int.emod_nonneg _ (by omega), Int.emod_lt_of_pos _ h⟩
theorem mul_l {i j : Int} (h : -(2 ^ 64) < i ∧ i < 2 ^ 64) : DL.MulOk i j := .inl (.inl h)
theorem mul_r {i j : Int} (h : -(2 ^ 64) < j ∧ j < 2 ^ 64) : DL.MulOk i j := .inl (.inr h)
theorem p_draw7 {m a z : Int} {n : NS} {x y : Option D} {q : D → NS → Prop} {e : DX} (hm : 0 < m) (ha : 0 ≤ a ∧ a < 1000000) (h : ∀ k : Int, 0 ≤ k → k < m → q (.int k) n) : draw7 { nx := fun _ n' => q .non n', rt := q, ex := e } [some .pen, some (.int m), x, some (.int a), some (.int z), y] n := by
  unfold draw7
  simp only [dSeq, dNext, dIfS, dTest, dOp, dVar, dC, dRet, dRetN, dGet, dAnd, dOr, dNot, dAndV, dOrV, dNotV, dIf, dNil, dCons, dTup, dLst, dCB, dM0, dM1, dDrop, dAsg, dgName, dPar, dCal, dChain, dRaise, dRaise2, dFor, diSeq, items, diRange1, diRange2, dLc, dYes, dgTup, dgCons, dgNil, dSl, dPart, dNoPart, dNeg, dPenC, dPenA, dPenL, dPutA, dPutL, dFld, dgFld, dNew, dMet, dLstM, dFrz, dApp, dgIx, dAug, startD, List.map_cons, List.map_nil, List.length_cons, List.length_nil, List.replicate, Nat.reduceAdd, Nat.reduceSub, List.cons_append, List.nil_append, List.append_nil, List.set_cons_zero, List.set_cons_succ, List.getElem?_cons_zero, List.getElem?_cons_succ, gInt, gMod, gI, gAdd, gMul, gDiv]
  refine ⟨by decide, mul_r (by decide), mul_l (by decide), mul_r (by omega), mul_l (by decide), by decide, ?_⟩
  generalize hx1 : (z % 2147481997 * 45191 + 35407 * a * a + 131 * a + 43) % 2147482063 = x1
  have b1 : 0 ≤ x1 ∧ x1 < 2147482063 := by rw [← hx1]; exact bound_mod (by decide)
  refine ⟨mul_l (by omega), mul_l (by decide), by decide, ?_⟩
  generalize hx2 : (x1 * (x1 + 71069) + 11 * a) % 2147482121 = x2
  have b2 : 0 ≤ x2 ∧ x2 < 2147482121 := by rw [← hx2]; exact bound_mod (by decide)
  refine ⟨mul_l (by omega), mul_l (by decide), by decide, ⟨by decide, .inl (by decide)⟩, hm, ?_⟩
  exact h _ (bound_mod hm).1 (bound_mod hm).2
theorem p_draw6 {m a z : Int} {n : NS} {x y : Option D} {q : D → NS → Prop} {e : DX} (hm : 0 < m) (hm2 : m < 1073741824) (ha : 0 ≤ a ∧ a < 1000000) (h : ∀ k : Int, 0 ≤ k → k < m → q (.int k) n) : draw6 cs { nx := fun _ n' => q .non n', rt := q, ex := e } [some .pen, some (.int m), x, some (.int a), some (.int z), y] n := by
  rw [draw6_split]
  simp only [dSeq, dNext, dIfS, dTest, dOp, dVar, dC, dRet, dRetN, dGet, dAnd, dOr, dNot, dAndV, dOrV, dNotV, dIf, dNil, dCons, dTup, dLst, dCB, dM0, dM1, dDrop, dAsg, dgName, dPar, dCal, dChain, dRaise, dRaise2, dFor, diSeq, items, diRange1, diRange2, dLc, dYes, dgTup, dgCons, dgNil, dSl, dPart, dNoPart, dNeg, dPenC, dPenA, dPenL, dPutA, dPutL, dFld, dgFld, dNew, dMet, dLstM, dFrz, dApp, dgIx, dAug, startD, List.map_cons, List.map_nil, List.length_cons, List.length_nil, List.replicate, Nat.reduceAdd, Nat.reduceSub, List.cons_append, List.nil_append, List.append_nil, List.set_cons_zero, List.set_cons_succ, List.getElem?_cons_zero, List.getElem?_cons_succ, gLt, gOrd, gLen, List.length_map]
  intro hc
  by_cases c : a < (cs.length : Int)
  · simp only [c, decide_true, gPow, gI, gGe, gOrd]
    refine ⟨⟨by decide, by decide, by decide⟩, ?_⟩
    by_cases d : (10 : Int) ^ Int.toNat 18 ≤ z
    · simp only [d, decide_true, DL.gSub, gI0, gDiv, gI, gInt, gMod]
      refine ⟨⟨by decide, by decide, by decide⟩, ⟨hm, .inl hm2⟩, Int.ediv_nonneg (by omega) (by omega), ⟨by decide, by decide, by decide⟩, hm, ?_⟩
      exact h _ (bound_mod hm).1 (bound_mod hm).2
    · simp only [d, decide_false]
      exact p_draw7 hm ha h
  · simp only [c, decide_false]
    exact p_draw7 hm ha h
theorem p__law_draw (ds : List D) (n : NS) (q : D → NS → Prop) (e : DY) (hl : ds.length = 2) (h : s__law_draw A ds n q e) : t__law_draw K A cs { nx := fun _ n' => q .non n', rt := q, ex := fun _ => e } (startD N__law_draw ds) n := by
  obtain ⟨m, rfl, hm, hm2, hn, h⟩ := h
  rw [draw_split]
  simp only [dSeq, dNext, dIfS, dTest, dOp, dVar, dC, dRet, dRetN, dGet, dAnd, dOr, dNot, dAndV, dOrV, dNotV, dIf, dNil, dCons, dTup, dLst, dCB, dM0, dM1, dDrop, dAsg, dgName, dPar, dCal, dChain, dRaise, dRaise2, dFor, diSeq, items, diRange1, diRange2, dLc, dYes, dgTup, dgCons, dgNil, dSl, dPart, dNoPart, dNeg, dPenC, dPenA, dPenL, dPutA, dPutL, dFld, dgFld, dNew, dMet, dLstM, dFrz, dApp, dgIx, dAug, startD, List.map_cons, List.map_nil, List.length_cons, List.length_nil, List.replicate, Nat.reduceAdd, Nat.reduceSub, List.cons_append, List.nil_append, List.append_nil, List.set_cons_zero, List.set_cons_succ, List.getElem?_cons_zero, List.getElem?_cons_succ, gGe, gOrd]
  intro l hl0
  by_cases c : m ≤ l
  · simp only [c, decide_true, gInt, gMod, gI, gDiv]
    intro l1 hl1
    refine ⟨hm, fun l2 hl2 => ⟨⟨hm, .inl hm2⟩, Int.ediv_nonneg hl2 (by omega), ?_⟩⟩
    exact h _ _ (Int.emod_nonneg _ (by omega)) (Int.emod_lt_of_pos _ hm) (Nat.le_refl _) (Nat.le_succ _)
  · simp only [c, decide_false]
    intro a ha0 ha1
    simp only [gAdd, gMul, gI]
    refine ⟨⟨by omega, by omega⟩, mul_l (by decide), ?_⟩
    simp only [gNe]
    intro hc
    refine ⟨by decide, ne_nil cs _ ?_⟩
    have fin : ∀ (z : Int), draw6 cs { nx := fun _ n' => q .non n', rt := q, ex := fun _ => e } [some .pen, some (.int m), none, some (.int a), some (.int z), none] ⟨n.at_ + 1, n.mu⟩ := fun z =>
      p_draw6 hm hm2 ⟨ha0, by unfold lim at hn; omega⟩ fun k h1 h2 => h k _ h1 h2 (Nat.le_succ _) (Nat.le_refl _)
    by_cases d : cs = []
    · simp only [d, decide_true, Bool.not_true]
      rw [← d]
      exact fin _
    · simp only [d, decide_false, Bool.not_false, gInt, gLen, gMod, gI, gIx, List.length_map]
      have hpos : 0 < cs.length := List.length_pos_iff.mpr d
      have hp : (0 : Int) < (cs.length : Int) := by omega
      have hb := bound_mod (x := a) hp
      intro _ _
      obtain ⟨j, hj⟩ : ∃ j : Nat, a % (cs.length : Int) = j := ⟨(a % (cs.length : Int)).toNat, by omega⟩
      refine ⟨hp, .int (cs[j]'(by omega)), ?_, fin _⟩
      rw [hj]
      unfold L2.atI L2.ixN
      rw [if_pos (by omega), if_pos (by rw [List.length_map]; omega)]
      simp
theorem p__law_pick (ds : List D) (n : NS) (q : D → NS → Prop) (e : DY) (hl : ds.length = 2) (h : s__law_pick A ds n q e) : t__law_pick K A cs { nx := fun _ n' => q .non n', rt := q, ex := fun _ => e } (startD N__law_pick ds) n := by
  obtain ⟨xs, rfl, h0, h1, hn, h⟩ := h
  unfold t__law_pick
  simp only [dSeq, dNext, dIfS, dTest, dOp, dVar, dC, dRet, dRetN, dGet, dAnd, dOr, dNot, dAndV, dOrV, dNotV, dIf, dNil, dCons, dTup, dLst, dCB, dM0, dM1, dDrop, dAsg, dgName, dPar, dCal, dChain, dRaise, dRaise2, dFor, diSeq, items, diRange1, diRange2, dLc, dYes, dgTup, dgCons, dgNil, dSl, dPart, dNoPart, dNeg, dPenC, dPenA, dPenL, dPutA, dPutL, dFld, dgFld, dNew, dMet, dLstM, dFrz, dApp, dgIx, dAug, startD, List.map_cons, List.map_nil, List.length_cons, List.length_nil, List.replicate, Nat.reduceAdd, Nat.reduceSub, List.cons_append, List.nil_append, List.append_nil, List.set_cons_zero, List.set_cons_succ, List.getElem?_cons_zero, List.getElem?_cons_succ, gLen]
  refine ⟨trivial, _, rfl, by omega, by omega, hn, fun k t hk hk2 hn1 hn2 => ?_⟩
  obtain ⟨j, rfl⟩ : ∃ j : Nat, k = j := ⟨k.toNat, by omega⟩
  simp only [gIx]
  exact ⟨_, atI_nat (by omega), h _ _ (List.getElem_mem _) hn1 hn2⟩
theorem inLet : ∀ c, c < 128 → decide (up1 c ∈ LET) = isLet c := by decide +kernel
theorem inDig (c : Nat) : decide (c ∈ [48, 49, 50, 51, 52, 53, 54, 55, 56, 57]) = isDig c := by
  unfold isDig
  rw [← Bool.decide_and]
  congr 1
  simp only [List.mem_cons, List.not_mem_nil, or_false, eq_iff_iff]
  omega
theorem any_not (f : Nat → Bool) : ∀ l : List Nat, (!(((l.map f).map D.bl).any fun y => eqF y (.bl false))) = l.all f
  | [] => rfl
  | c :: l => by
    rw [List.map_cons, List.map_cons, List.any_cons, List.all_cons, Bool.not_or, any_not f l]
    congr 1
    cases f c <;> rfl
theorem flat_bls : ∀ l : List Bool, (l.map D.bl).all flatD = true
  | [] => rfl
  | c :: l => by
    rw [List.map_cons, List.all_cons, flat_bls l]
    rfl
theorem sheet_ascii {l : List Nat} (h : sheetOk l = true) : ascii l := by
  unfold sheetOk at h
  simp only [Bool.and_eq_true, List.all_eq_true] at h
  unfold ascii
  rw [List.all_eq_true]
  intro c hc
  have := h.2 c hc
  unfold isLet isDig at this
  simp only [Bool.or_eq_true, Bool.and_eq_true, decide_eq_true_eq] at this ⊢
  omega
end
end K17

set_option Elab.async false
set_option linter.all false
set_option maxRecDepth 100000
set_option maxHeartbeats 8000000
set_option autoImplicit false
namespace K17
open PySem PySem.Spec PyProof.Rows L2 DL
theorem strOk_S {l : List Nat} (h : ascii l) : PyData.strOk (DL.S l) = true := by
  unfold PyData.strOk
  unfold ascii at h
  rw [← Array.all_toList]
  rw [List.all_eq_true] at h ⊢
  intro c hc
  have := h c (by simpa using hc)
  simp only [decide_eq_true_eq] at this ⊢
  omega
theorem Low.refl : ∀ l, Low l l
  | [] => trivial
  | _ :: l => ⟨.inl rfl, Low.refl l⟩
theorem Low.snoc : ∀ {l l' : List Nat} {c d : Nat}, Low l l' → (d = c ∨ d = lo1 c) → Low (l ++ [c]) (l' ++ [d])
  | [], [], _, _, _, h => ⟨h, trivial⟩
  | _ :: l, _ :: l', _, _, h, g => ⟨h.1, Low.snoc h.2 g⟩
  | [], _ :: _, _, _, h, _ => h.elim
  | _ :: _, [], _, _, h, _ => h.elim
theorem Low.len : ∀ {l l' : List Nat}, Low l l' → l'.length = l.length
  | [], [], _ => rfl
  | _ :: l, _ :: l', h => by rw [List.length_cons, List.length_cons, Low.len h.2]
  | [], _ :: _, h => h.elim
  | _ :: _, [], h => h.elim
theorem cut_from1 {α : Type} (l : List α) (j : Nat) : cutL l (some ((j : Int) + 1)) none = l.drop (j + 1) := cut_from l (j + 1)
section
variable {P : Program} {K : PySem.W.Frag} {mg : Str → Option Value} {A : Ad} {cs : List Int}
theorem sheet_snoc {l : List Nat} {c : Nat} (h : sheetOk l = true) (hc : (isLet c || isDig c) = true) (hl : l.length < 12) : sheetOk (l ++ [c]) = true := by
  unfold sheetOk at h ⊢
  simp only [Bool.and_eq_true, decide_eq_true_eq] at h ⊢
  obtain ⟨⟨⟨h1, h2⟩, h3⟩, h4⟩ := h
  refine ⟨⟨⟨by rw [List.length_append]; omega, by rw [List.length_append, List.length_cons, List.length_nil]; omega⟩, ?_⟩, by rw [List.all_append, h4]; simpa using hc⟩
  cases l with
  | nil => simp at h1
  | cons a r => exact h3
theorem ascii_take {l : List Nat} (k : Nat) (h : ascii l) : ascii (l.take k) := by
  unfold ascii at h ⊢
  rw [List.all_eq_true] at h ⊢
  exact fun c hc => h c (List.mem_of_mem_take hc)
theorem ascii_drop {l : List Nat} (k : Nat) (h : ascii l) : ascii (l.drop k) := by
  unfold ascii at h ⊢
  rw [List.all_eq_true] at h ⊢
  exact fun c hc => h c (List.mem_of_mem_drop hc)
theorem ascii_app {l r : List Nat} (h : ascii l) (g : ascii r) : ascii (l ++ r) := by
  unfold ascii at h g ⊢
  rw [List.all_append, h, g]
  rfl
theorem ascii_one {c : Nat} {l : List Nat} (h : ascii l) (hc : c ∈ l) : ascii [c] := by
  unfold ascii at h ⊢
  rw [List.all_eq_true] at h
  simpa using h c hc
theorem at1 {α : Type} (a b : α) (r : List α) : L2.atI (a :: b :: r) 1 = some b := atI_nat (xs := a :: b :: r) (j := 1) (by simp)
theorem at2 {α : Type} (a b c : α) (r : List α) : L2.atI (a :: b :: c :: r) 2 = some c := atI_nat (xs := a :: b :: c :: r) (j := 2) (by simp)
theorem at3 {α : Type} (a b c d : α) (r : List α) : L2.atI (a :: b :: c :: d :: r) 3 = some d := atI_nat (xs := a :: b :: c :: d :: r) (j := 3) (by simp)
theorem at4 {α : Type} (a b c d f : α) (r : List α) : L2.atI (a :: b :: c :: d :: f :: r) 4 = some f := atI_nat (xs := a :: b :: c :: d :: f :: r) (j := 4) (by simp)
end
end K17

set_option Elab.async false
set_option linter.all false
set_option maxRecDepth 100000
set_option maxHeartbeats 8000000
set_option autoImplicit false
namespace K17
open PySem PySem.Spec PyProof.Rows L2 DL
/-! ### tuples compared -/
def pySh : Option (List Nat) → PyData
  | none => .none
  | some l => .str (DL.S l)
def pyPl (p : Pl) : PyData := .tuple [.int p.r, .int p.c, .bool p.fr, .bool p.fc, pySh p.sh]
theorem py_sh (sh : Option (List Nat)) : py (shD sh) = some (pySh sh) := by cases sh <;> rfl
theorem py_pl (p : Pl) : py (placeD p) = some (pyPl p) := by
  unfold placeD pyPl
  simp only [py, pyL, py_sh, Option.map_some]
theorem shaped_pl {p : Pl} (h : shA p.sh) : SeqAt.shaped (pyPl p) = true := by
  unfold pyPl
  cases hs : p.sh with
  | none => rfl
  | some l =>
    simp only [pySh, SeqAt.shaped, PyData.canLay0, PyData.canLayAll0, strOk_S (h l hs).1, PyData.depth, PyData.depthAll]
    rfl
theorem eqv_sh (a b : Option (List Nat)) : PyData.eqv (pySh a) (pySh b) = decide (a = b) := by
  cases a <;> cases b
  · rfl
  · rfl
  · rfl
  · rename_i a b
    show (DL.S a == DL.S b) = _
    by_cases h : a = b
    · subst h
      simp
    · rw [decide_eq_false (by simpa using h)]
      rw [beq_eq_false_iff_ne]
      exact fun z => h (S_inj.mp z)
theorem eqv_pl (p p' : Pl) : PyData.eqv (pyPl p) (pyPl p') = decide (p = p') := by
  unfold pyPl
  simp only [PyData.eqv, PyData.eqvAll, eqv_sh, Bool.and_true]
  obtain ⟨a, b, c, d, s⟩ := p
  obtain ⟨a', b', c', d', s'⟩ := p'
  simp only [Pl.mk.injEq, Bool.decide_and]
  rw [show (a == a') = decide (a = a') from rfl, show (b == b') = decide (b = b') from rfl]
  cases c <;> cases c' <;> cases d <;> cases d' <;> simp
theorem eq_place {p p' : Pl} {k : Bool → Prop} (h1 : shA p.sh) (h2 : shA p'.sh) (h : k (decide (p = p'))) : eqD (placeD p) (placeD p') k :=
  ⟨pyPl p, pyPl p', py_pl p, py_pl p', shaped_pl h1, shaped_pl h2, by rw [eqv_pl]; exact h⟩
theorem shA_of {sh : Option (List Nat)} (h : shOk sh) : shA sh := fun l e => ⟨sheet_ascii (h l e), by have := sheet_len (h l e); omega⟩
section
variable {P : Program} {K : PySem.W.Frag} {mg : Str → Option Value} {A : Ad} {cs : List Int}
/-! ### the law's reading -/
theorem take1 (l : List Nat) : decide (l.take 1 = [36]) = hasD l := rfl
/-! ### the law's split -/
theorem unm_take {l : List Nat} {k : Nat} (hk : 1 ≤ k) : (unm (l.take ((l.length - (unm l).length) + k))).length = min k (unm l).length := by
  cases l with
  | nil => simp [unm, hasD]
  | cons c r =>
    by_cases z : c = 36
    · subst z
      have h1 : hasD (36 :: r) = true := by rw [hasD_cons]; rfl
      have e : unm (36 :: r) = r := by unfold unm; rw [if_pos h1]; rfl
      rw [e, List.length_cons, show r.length + 1 - r.length + k = k + 1 by omega, List.take_succ_cons]
      unfold unm
      rw [if_pos (by rw [hasD_cons]; rfl)]
      simp
    · have h1 : ¬ hasD (c :: r) = true := by rw [hasD_cons]; simpa using z
      have e : unm (c :: r) = c :: r := by unfold unm; rw [if_neg h1]
      rw [e, Nat.sub_self, Nat.zero_add]
      obtain ⟨k, rfl⟩ : ∃ j, k = j + 1 := ⟨k - 1, by omega⟩
      rw [List.take_succ_cons]
      unfold unm
      rw [if_neg (by rw [hasD_cons]; simpa using z)]
      simp only [List.length_cons, List.length_take]
      omega
theorem long_none {l : List Nat} {k : Nat} (hk : 4 ≤ k) (h : k ≤ (unm l).length) : readCol (l.take ((l.length - (unm l).length) + k)) = none := by
  unfold readCol
  rw [if_neg]
  unfold colOk
  rw [unm_take (by omega), Nat.min_eq_left h]
  simp
  omega
theorem tw_len (l : List Nat) : (l.takeWhile isLet).length ≤ l.length := (List.takeWhile_prefix isLet).length_le
/-- the law takes four letters at most -/
theorem read4 {l : List Nat} {sh : Option (List Nat)} {m : Nat} (hm : m = (l.length - (unm l).length) + min 4 ((unm l).takeWhile isLet).length) :
    readCell l sh = (match readCol (l.take m), readRow (l.drop m) with | some c, some r => some ⟨r.1, c.1, r.2, c.2, sh⟩ | _, _ => none) := by
  by_cases h : ((unm l).takeWhile isLet).length ≤ 4
  · rw [Nat.min_eq_right h] at hm
    subst hm
    rfl
  · rw [Nat.min_eq_left (by omega)] at hm
    have t := tw_len (unm l)
    have e1 : readCol (l.take m) = none := by rw [hm]; exact long_none (by omega) (by omega)
    have e2 : readCol (l.take (splitN l)) = none := by
      unfold splitN
      exact long_none (by omega) (by omega)
    unfold readCell
    rw [e1, e2]
theorem same_no (a : Option (List Nat)) : sameSh (if a = none then some [79, 116, 104, 101, 114, 49] else none) a = false := by cases a <;> rfl
end
end K17

set_option Elab.async false
set_option linter.all false
set_option maxRecDepth 100000
set_option maxHeartbeats 8000000
set_option autoImplicit false
namespace K17
open PySem PySem.Spec PyProof.Rows L2 DL
section
variable {P : Program} {K : PySem.W.Frag} {mg : Str → Option Value} {A : Ad} {cs : List Int}
theorem pl_fst {a : Ar} (h : ArOk a) : PlOk (fst a) := ⟨grid_iff.mpr ⟨h.t.1, h.t.2, h.l.1, h.l.2⟩, h.s⟩
theorem pl_lst {a : Ar} (h : ArOk a) : PlOk (lst a) := ⟨grid_iff.mpr ⟨h.b.1, h.b.2, h.r.1, h.r.2⟩, h.s⟩
theorem w3 {w : Nat} (h : w ≤ 2) : w = 0 ∨ w = 1 ∨ w = 2 := by omega
theorem inOrd_or (x y : IB) : (inOrd x y = (x, y)) ∨ inOrd x y = (y, x) := by
  unfold inOrd
  split
  · exact .inr rfl
  · exact .inl rfl
theorem nRows_in {x y : IB} {w : Nat} (hx : rowIn x) (hy : rowIn y) : rowIn (nRows x y w).1 ∧ rowIn (nRows x y w).2 := by
  unfold nRows
  split
  · exact ⟨⟨by decide, by decide⟩, ⟨by decide, by decide⟩⟩
  · rcases inOrd_or x y with e | e <;> rw [e]
    · exact ⟨hx, hy⟩
    · exact ⟨hy, hx⟩
theorem nCols_in {x y : IB} {w : Nat} (hx : colIn x) (hy : colIn y) : colIn (nCols x y w).1 ∧ colIn (nCols x y w).2 := by
  unfold nCols
  split
  · exact ⟨⟨by decide, by decide⟩, ⟨by decide, by decide⟩⟩
  · rcases inOrd_or x y with e | e <;> rw [e]
    · exact ⟨hx, hy⟩
    · exact ⟨hy, hx⟩
theorem nrm_ok {x y u v : IB} {w : Nat} {sh : Option (List Nat)} (h : TOk x y u v w sh) : ArOk (nrm x y u v w sh) := ⟨(nRows_in h.x h.y).1, (nRows_in h.x h.y).2, (nCols_in h.u h.v).1, (nCols_in h.u h.v).2, h.w, h.s⟩
theorem tok_of {p p' : Pl} {w : Nat} (h : PlOk p) (h' : PlOk p') (hw : w ≤ 2) : TOk (p.r, p.fr) (p'.r, p'.fr) (p.c, p.fc) (p'.c, p'.fc) w p.sh := by
  obtain ⟨a1, a2, a3, a4⟩ := grid_of h.g
  obtain ⟨b1, b2, b3, b4⟩ := grid_of h'.g
  exact ⟨⟨a1, a2⟩, ⟨b1, b2⟩, ⟨a3, a4⟩, ⟨b3, b4⟩, hw, h.s⟩
theorem p_in_order (ds : List D) (n : NS) (q : D → NS → Prop) (e : DY) (hl : ds.length = 2) (h : s_in_order A ds n q e) : t_in_order K A cs { nx := fun _ n' => q .non n', rt := q, ex := fun _ => e } (startD N_in_order ds) n := by
  obtain ⟨x, y, rfl, h⟩ := h
  unfold t_in_order
  simp only [dSeq, dNext, dIfS, dTest, dOp, dVar, dC, dRet, dRetN, dGet, dAnd, dOr, dNot, dAndV, dOrV, dNotV, dIf, dNil, dCons, dTup, dLst, dCB, dM0, dM1, dDrop, dAsg, dgName, dPar, dCal, dChain, dRaise, dRaise2, dFor, diSeq, items, diRange1, diRange2, dLc, dYes, dgTup, dgCons, dgNil, dSl, dPart, dNoPart, dNeg, dPenC, dPenA, dPenL, dPutA, dPutL, dFld, dgFld, dNew, dMet, dLstM, dFrz, dApp, dgIx, dAug, startD, List.map_cons, List.map_nil, List.length_cons, List.length_nil, List.replicate, Nat.reduceAdd, Nat.reduceSub, List.cons_append, List.nil_append, List.append_nil, List.set_cons_zero, List.set_cons_succ, List.getElem?_cons_zero, List.getElem?_cons_succ, prD, gIx]
  refine ⟨_, at0 _ _, _, at1 _ _ _, by simp, _, at0 _ _, _, at1 _ _ _, by simp, ?_⟩
  simp only [gLeP]
  unfold inOrd at h
  have e0 : ahead (y.1, !y.2) (x.1, !x.2) = ahead (kOf y) (kOf x) := rfl
  rw [e0]
  cases hz : ahead (kOf y) (kOf x) with
  | true =>
    rw [hz] at h
    exact ⟨by simp, h⟩
  | false =>
    rw [hz] at h
    exact ⟨by simp, h⟩
theorem p_normal_rows (ds : List D) (n : NS) (q : D → NS → Prop) (e : DY) (hl : ds.length = 3) (h : s_normal_rows A ds n q e) : t_normal_rows K A cs { nx := fun _ n' => q .non n', rt := q, ex := fun _ => e } (startD N_normal_rows ds) n := by
  obtain ⟨p, p', w, rfl, hw, h⟩ := h
  unfold t_normal_rows
  simp only [dSeq, dNext, dIfS, dTest, dOp, dVar, dC, dRet, dRetN, dGet, dAnd, dOr, dNot, dAndV, dOrV, dNotV, dIf, dNil, dCons, dTup, dLst, dCB, dM0, dM1, dDrop, dAsg, dgName, dPar, dCal, dChain, dRaise, dRaise2, dFor, diSeq, items, diRange1, diRange2, dLc, dYes, dgTup, dgCons, dgNil, dSl, dPart, dNoPart, dNeg, dPenC, dPenA, dPenL, dPutA, dPutL, dFld, dgFld, dNew, dMet, dLstM, dFrz, dApp, dgIx, dAug, startD, List.map_cons, List.map_nil, List.length_cons, List.length_nil, List.replicate, Nat.reduceAdd, Nat.reduceSub, List.cons_append, List.nil_append, List.append_nil, List.set_cons_zero, List.set_cons_succ, List.getElem?_cons_zero, List.getElem?_cons_succ, gEq]
  unfold nRows at h
  rcases w3 hw with rfl | rfl | rfl
  · simp only [whD, eqD, scEq]
    exact ⟨by simp, .int p.r, rfl, by simp, .bl p.fr, rfl, by simp, by simp, .int p'.r, rfl, by simp, .bl p'.fr, rfl, by simp, trivial, (p.r, p.fr), (p'.r, p'.fr), rfl, h⟩
  · simp only [whD, eqD, scEq]
    exact ⟨by simp, by simp, by simp, h⟩
  · simp only [whD, eqD, scEq]
    exact ⟨by simp, .int p.r, rfl, by simp, .bl p.fr, rfl, by simp, by simp, .int p'.r, rfl, by simp, .bl p'.fr, rfl, by simp, trivial, (p.r, p.fr), (p'.r, p'.fr), rfl, h⟩
theorem p_normal_columns (ds : List D) (n : NS) (q : D → NS → Prop) (e : DY) (hl : ds.length = 3) (h : s_normal_columns A ds n q e) : t_normal_columns K A cs { nx := fun _ n' => q .non n', rt := q, ex := fun _ => e } (startD N_normal_columns ds) n := by
  obtain ⟨p, p', w, rfl, hw, h⟩ := h
  unfold t_normal_columns
  simp only [dSeq, dNext, dIfS, dTest, dOp, dVar, dC, dRet, dRetN, dGet, dAnd, dOr, dNot, dAndV, dOrV, dNotV, dIf, dNil, dCons, dTup, dLst, dCB, dM0, dM1, dDrop, dAsg, dgName, dPar, dCal, dChain, dRaise, dRaise2, dFor, diSeq, items, diRange1, diRange2, dLc, dYes, dgTup, dgCons, dgNil, dSl, dPart, dNoPart, dNeg, dPenC, dPenA, dPenL, dPutA, dPutL, dFld, dgFld, dNew, dMet, dLstM, dFrz, dApp, dgIx, dAug, startD, List.map_cons, List.map_nil, List.length_cons, List.length_nil, List.replicate, Nat.reduceAdd, Nat.reduceSub, List.cons_append, List.nil_append, List.append_nil, List.set_cons_zero, List.set_cons_succ, List.getElem?_cons_zero, List.getElem?_cons_succ, gEq]
  unfold nCols at h
  rcases w3 hw with rfl | rfl | rfl
  · simp only [whD, eqD, scEq]
    exact ⟨by simp, .int p.c, rfl, by simp, .bl p.fc, rfl, by simp, by simp, .int p'.c, rfl, by simp, .bl p'.fc, rfl, by simp, trivial, (p.c, p.fc), (p'.c, p'.fc), rfl, h⟩
  · simp only [whD, eqD, scEq]
    exact ⟨by simp, .int p.c, rfl, by simp, .bl p.fc, rfl, by simp, by simp, .int p'.c, rfl, by simp, .bl p'.fc, rfl, by simp, trivial, (p.c, p.fc), (p'.c, p'.fc), rfl, h⟩
  · simp only [whD, eqD, scEq]
    exact ⟨by simp, by simp, by simp, h⟩
theorem sameSh_self (sh : Option (List Nat)) : sameSh sh sh = true := by cases sh <;> simp [sameSh]
theorem isN_sh (sh : Option (List Nat)) : isNon (shD sh) = sh.isNone := by cases sh <;> rfl
theorem p_Area_init (ds : List D) (n : NS) (q : D → NS → Prop) (e : DY) (hl : ds.length = 4) (h : s_Area_init A ds n q e) : t_Area_init K A cs { nx := fun _ n' => q .non n', rt := q, ex := fun _ => e } (startD N_Area_init ds) n := by
  obtain ⟨a, dx, p, x2, x3, rfl, hm, hp, h⟩ := h
  unfold t_Area_init
  simp only [dSeq, dNext, dIfS, dTest, dOp, dVar, dC, dRet, dRetN, dGet, dAnd, dOr, dNot, dAndV, dOrV, dNotV, dIf, dNil, dCons, dTup, dLst, dCB, dM0, dM1, dDrop, dAsg, dgName, dPar, dCal, dChain, dRaise, dRaise2, dFor, diSeq, items, diRange1, diRange2, dLc, dYes, dgTup, dgCons, dgNil, dSl, dPart, dNoPart, dNeg, dPenC, dPenA, dPenL, dPutA, dPutL, dFld, dgFld, dNew, dMet, dLstM, dFrz, dApp, dgIx, dAug, startD, List.map_cons, List.map_nil, List.length_cons, List.length_nil, List.replicate, Nat.reduceAdd, Nat.reduceSub, List.cons_append, List.nil_append, List.append_nil, List.set_cons_zero, List.set_cons_succ, List.getElem?_cons_zero, List.getElem?_cons_succ]
  refine ⟨trivial, _, rfl, .inl ⟨p, rfl, ?_⟩⟩
  unfold u_Area_init_2
  simp only [dSeq, dNext, dIfS, dTest, dOp, dVar, dC, dRet, dRetN, dGet, dAnd, dOr, dNot, dAndV, dOrV, dNotV, dIf, dNil, dCons, dTup, dLst, dCB, dM0, dM1, dDrop, dAsg, dgName, dPar, dCal, dChain, dRaise, dRaise2, dFor, diSeq, items, diRange1, diRange2, dLc, dYes, dgTup, dgCons, dgNil, dSl, dPart, dNoPart, dNeg, dPenC, dPenA, dPenL, dPutA, dPutL, dFld, dgFld, dNew, dMet, dLstM, dFrz, dApp, dgIx, dAug, startD, List.map_cons, List.map_nil, List.length_cons, List.length_nil, List.replicate, Nat.reduceAdd, Nat.reduceSub, List.cons_append, List.nil_append, List.append_nil, List.set_cons_zero, List.set_cons_succ, List.getElem?_cons_zero, List.getElem?_cons_succ]
  refine ⟨trivial, _, rfl, ?_⟩
  rcases h with ⟨hk, h⟩ | ⟨p', rfl, hp', hbad, hok⟩
  · exact .inr ⟨hk, h⟩
  refine .inl ⟨p', rfl, ?_⟩
  have go : okSh p.sh p'.sh = true → u_Area_init_4 K A cs { nx := fun _ n' => q .non n', rt := q, ex := fun _ => e } [some (.ref a), some (adrD A p), some (adrD A p'), some x3, none, none, none, none, none] n := fun ho => by
    rcases hok ho with ⟨w, rfl, hw, h⟩ | ⟨od, h⟩
    · have T := nrm_ok (tok_of hp hp' hw)
      have f1 := pl_fst T
      have f2 := pl_lst T
      have go5 : u_Area_init_5 K A cs { nx := fun _ n' => q .non n', rt := q, ex := fun _ => e } [some (.ref a), some (adrD A p), some (adrD A p'), some (whD w), none, none, none, none, none] n := by
        unfold u_Area_init_5
        simp only [dSeq, dNext, dIfS, dTest, dOp, dVar, dC, dRet, dRetN, dGet, dAnd, dOr, dNot, dAndV, dOrV, dNotV, dIf, dNil, dCons, dTup, dLst, dCB, dM0, dM1, dDrop, dAsg, dgName, dPar, dCal, dChain, dRaise, dRaise2, dFor, diSeq, items, diRange1, diRange2, dLc, dYes, dgTup, dgCons, dgNil, dSl, dPart, dNoPart, dNeg, dPenC, dPenA, dPenL, dPutA, dPutL, dFld, dgFld, dNew, dMet, dLstM, dFrz, dApp, dgIx, dAug, startD, List.map_cons, List.map_nil, List.length_cons, List.length_nil, List.replicate, Nat.reduceAdd, Nat.reduceSub, List.cons_append, List.nil_append, List.append_nil, List.set_cons_zero, List.set_cons_succ, List.getElem?_cons_zero, List.getElem?_cons_succ]
        refine ⟨trivial, p, p', w, rfl, hw, rfl, ?_⟩
        unfold u_Area_init_6
        simp only [dSeq, dNext, dIfS, dTest, dOp, dVar, dC, dRet, dRetN, dGet, dAnd, dOr, dNot, dAndV, dOrV, dNotV, dIf, dNil, dCons, dTup, dLst, dCB, dM0, dM1, dDrop, dAsg, dgName, dPar, dCal, dChain, dRaise, dRaise2, dFor, diSeq, items, diRange1, diRange2, dLc, dYes, dgTup, dgCons, dgNil, dSl, dPart, dNoPart, dNeg, dPenC, dPenA, dPenL, dPutA, dPutL, dFld, dgFld, dNew, dMet, dLstM, dFrz, dApp, dgIx, dAug, startD, List.map_cons, List.map_nil, List.length_cons, List.length_nil, List.replicate, Nat.reduceAdd, Nat.reduceSub, List.cons_append, List.nil_append, List.append_nil, List.set_cons_zero, List.set_cons_succ, List.getElem?_cons_zero, List.getElem?_cons_succ]
        refine ⟨trivial, p, p', w, rfl, hw, rfl, ?_⟩
        unfold u_Area_init_7
        simp only [dSeq, dNext, dIfS, dTest, dOp, dVar, dC, dRet, dRetN, dGet, dAnd, dOr, dNot, dAndV, dOrV, dNotV, dIf, dNil, dCons, dTup, dLst, dCB, dM0, dM1, dDrop, dAsg, dgName, dPar, dCal, dChain, dRaise, dRaise2, dFor, diSeq, items, diRange1, diRange2, dLc, dYes, dgTup, dgCons, dgNil, dSl, dPart, dNoPart, dNeg, dPenC, dPenA, dPenL, dPutA, dPutL, dFld, dgFld, dNew, dMet, dLstM, dFrz, dApp, dgIx, dAug, startD, List.map_cons, List.map_nil, List.length_cons, List.length_nil, List.replicate, Nat.reduceAdd, Nat.reduceSub, List.cons_append, List.nil_append, List.append_nil, List.set_cons_zero, List.set_cons_succ, List.getElem?_cons_zero, List.getElem?_cons_succ]
        refine ⟨by simp, shD p.sh, rfl, ?_⟩
        unfold u_Area_init_8
        simp only [dSeq, dNext, dIfS, dTest, dOp, dVar, dC, dRet, dRetN, dGet, dAnd, dOr, dNot, dAndV, dOrV, dNotV, dIf, dNil, dCons, dTup, dLst, dCB, dM0, dM1, dDrop, dAsg, dgName, dPar, dCal, dChain, dRaise, dRaise2, dFor, diSeq, items, diRange1, diRange2, dLc, dYes, dgTup, dgCons, dgNil, dSl, dPart, dNoPart, dNeg, dPenC, dPenA, dPenL, dPutA, dPutL, dFld, dgFld, dNew, dMet, dLstM, dFrz, dApp, dgIx, dAug, startD, List.map_cons, List.map_nil, List.length_cons, List.length_nil, List.replicate, Nat.reduceAdd, Nat.reduceSub, List.cons_append, List.nil_append, List.append_nil, List.set_cons_zero, List.set_cons_succ, List.getElem?_cons_zero, List.getElem?_cons_succ, prD, gIx]
        refine ⟨_, at0 _ _, _, at0 _ _, _, at1 _ _ _, _, at1 _ _ _, trivial, trivial, ?_⟩
        refine ⟨_, _, _, _, _, rfl, adr_good hp.s (fun _ => ?_) fun z => absurd (z.symm.trans f1.g) Bool.false_ne_true⟩
        refine ⟨A.Area, dx, [], [], hm, by simp, by simp, by simp, ?_⟩
        unfold u_Area_init_9
        simp only [dSeq, dNext, dIfS, dTest, dOp, dVar, dC, dRet, dRetN, dGet, dAnd, dOr, dNot, dAndV, dOrV, dNotV, dIf, dNil, dCons, dTup, dLst, dCB, dM0, dM1, dDrop, dAsg, dgName, dPar, dCal, dChain, dRaise, dRaise2, dFor, diSeq, items, diRange1, diRange2, dLc, dYes, dgTup, dgCons, dgNil, dSl, dPart, dNoPart, dNeg, dPenC, dPenA, dPenL, dPutA, dPutL, dFld, dgFld, dNew, dMet, dLstM, dFrz, dApp, dgIx, dAug, startD, List.map_cons, List.map_nil, List.length_cons, List.length_nil, List.replicate, Nat.reduceAdd, Nat.reduceSub, List.cons_append, List.nil_append, List.append_nil, List.set_cons_zero, List.set_cons_succ, List.getElem?_cons_zero, List.getElem?_cons_succ, prD, gIx]
        refine ⟨_, at0 _ _, _, at0 _ _, _, at1 _ _ _, _, at1 _ _ _, trivial, trivial, ?_⟩
        refine ⟨_, _, _, _, _, rfl, adr_good hp.s (fun _ => ?_) fun z => absurd (z.symm.trans f2.g) Bool.false_ne_true⟩
        refine ⟨A.Area, dx, _, _, mup_same, by simp, by decide, by simp, ?_⟩
        unfold u_Area_init_10
        simp only [dSeq, dNext, dIfS, dTest, dOp, dVar, dC, dRet, dRetN, dGet, dAnd, dOr, dNot, dAndV, dOrV, dNotV, dIf, dNil, dCons, dTup, dLst, dCB, dM0, dM1, dDrop, dAsg, dgName, dPar, dCal, dChain, dRaise, dRaise2, dFor, diSeq, items, diRange1, diRange2, dLc, dYes, dgTup, dgCons, dgNil, dSl, dPart, dNoPart, dNeg, dPenC, dPenA, dPenL, dPutA, dPutL, dFld, dgFld, dNew, dMet, dLstM, dFrz, dApp, dgIx, dAug, startD, List.map_cons, List.map_nil, List.length_cons, List.length_nil, List.replicate, Nat.reduceAdd, Nat.reduceSub, List.cons_append, List.nil_append, List.append_nil, List.set_cons_zero, List.set_cons_succ, List.getElem?_cons_zero, List.getElem?_cons_succ]
        refine ⟨by decide, trivial, A.Area, dx, _, _, mup_same, by simp, by decide, by simp, ?_⟩
        refine ⟨A.Area, dx, _, _, mup_same, by simp, by decide, by simp, ?_⟩
        unfold u_Area_init_11
        simp only [dSeq, dNext, dIfS, dTest, dOp, dVar, dC, dRet, dRetN, dGet, dAnd, dOr, dNot, dAndV, dOrV, dNotV, dIf, dNil, dCons, dTup, dLst, dCB, dM0, dM1, dDrop, dAsg, dgName, dPar, dCal, dChain, dRaise, dRaise2, dFor, diSeq, items, diRange1, diRange2, dLc, dYes, dgTup, dgCons, dgNil, dSl, dPart, dNoPart, dNeg, dPenC, dPenA, dPenL, dPutA, dPutL, dFld, dgFld, dNew, dMet, dLstM, dFrz, dApp, dgIx, dAug, startD, List.map_cons, List.map_nil, List.length_cons, List.length_nil, List.replicate, Nat.reduceAdd, Nat.reduceSub, List.cons_append, List.nil_append, List.append_nil, List.set_cons_zero, List.set_cons_succ, List.getElem?_cons_zero, List.getElem?_cons_succ, gIx, DL.gSub, gAdd]
        refine ⟨_, at0 _ _, _, at0 _ _, ?_⟩
        refine ⟨A.Area, dx, _, _, mup_same, by simp, by decide, by simp, ?_⟩
        unfold u_Area_init_12
        simp only [dSeq, dNext, dIfS, dTest, dOp, dVar, dC, dRet, dRetN, dGet, dAnd, dOr, dNot, dAndV, dOrV, dNotV, dIf, dNil, dCons, dTup, dLst, dCB, dM0, dM1, dDrop, dAsg, dgName, dPar, dCal, dChain, dRaise, dRaise2, dFor, diSeq, items, diRange1, diRange2, dLc, dYes, dgTup, dgCons, dgNil, dSl, dPart, dNoPart, dNeg, dPenC, dPenA, dPenL, dPutA, dPutL, dFld, dgFld, dNew, dMet, dLstM, dFrz, dApp, dgIx, dAug, startD, List.map_cons, List.map_nil, List.length_cons, List.length_nil, List.replicate, Nat.reduceAdd, Nat.reduceSub, List.cons_append, List.nil_append, List.append_nil, List.set_cons_zero, List.set_cons_succ, List.getElem?_cons_zero, List.getElem?_cons_succ, gIx, DL.gSub, gAdd]
        refine ⟨_, at0 _ _, _, at0 _ _, ?_⟩
        refine ⟨A.Area, dx, _, _, mup_same, by simp, by decide, by simp, ?_⟩
        simp only [mup_mup]
        exact h
      unfold u_Area_init_4
      simp only [dSeq, dNext, dIfS, dTest, dOp, dVar, dC, dRet, dRetN, dGet, dAnd, dOr, dNot, dAndV, dOrV, dNotV, dIf, dNil, dCons, dTup, dLst, dCB, dM0, dM1, dDrop, dAsg, dgName, dPar, dCal, dChain, dRaise, dRaise2, dFor, diSeq, items, diRange1, diRange2, dLc, dYes, dgTup, dgCons, dgNil, dSl, dPart, dNoPart, dNeg, dPenC, dPenA, dPenL, dPutA, dPutL, dFld, dgFld, dNew, dMet, dLstM, dFrz, dApp, dgIx, dAug, startD, List.map_cons, List.map_nil, List.length_cons, List.length_nil, List.replicate, Nat.reduceAdd, Nat.reduceSub, List.cons_append, List.nil_append, List.append_nil, List.set_cons_zero, List.set_cons_succ, List.getElem?_cons_zero, List.getElem?_cons_succ, gNotN, gNe]
      rcases w3 hw with rfl | rfl | rfl
      · simp only [whD, isNon] at go5 ⊢
        exact ⟨trivial, go5⟩
      · simp only [whD, isNon, eqD, scEq] at go5 ⊢
        exact ⟨trivial, go5⟩
      · simp only [whD, isNon, eqD, scEq] at go5 ⊢
        exact ⟨trivial, go5⟩
    · unfold u_Area_init_4
      simp only [dSeq, dNext, dIfS, dTest, dOp, dVar, dC, dRet, dRetN, dGet, dAnd, dOr, dNot, dAndV, dOrV, dNotV, dIf, dNil, dCons, dTup, dLst, dCB, dM0, dM1, dDrop, dAsg, dgName, dPar, dCal, dChain, dRaise, dRaise2, dFor, diSeq, items, diRange1, diRange2, dLc, dYes, dgTup, dgCons, dgNil, dSl, dPart, dNoPart, dNeg, dPenC, dPenA, dPenL, dPutA, dPutL, dFld, dgFld, dNew, dMet, dLstM, dFrz, dApp, dgIx, dAug, startD, List.map_cons, List.map_nil, List.length_cons, List.length_nil, List.replicate, Nat.reduceAdd, Nat.reduceSub, List.cons_append, List.nil_append, List.append_nil, List.set_cons_zero, List.set_cons_succ, List.getElem?_cons_zero, List.getElem?_cons_succ, gNotN, gNe]
      rw [od.nn]
      exact ⟨trivial, od.c _ (od.r _ ⟨trivial, h⟩)⟩
  unfold u_Area_init_3
  simp only [dSeq, dNext, dIfS, dTest, dOp, dVar, dC, dRet, dRetN, dGet, dAnd, dOr, dNot, dAndV, dOrV, dNotV, dIf, dNil, dCons, dTup, dLst, dCB, dM0, dM1, dDrop, dAsg, dgName, dPar, dCal, dChain, dRaise, dRaise2, dFor, diSeq, items, diRange1, diRange2, dLc, dYes, dgTup, dgCons, dgNil, dSl, dPart, dNoPart, dNeg, dPenC, dPenA, dPenL, dPutA, dPutL, dFld, dgFld, dNew, dMet, dLstM, dFrz, dApp, dgIx, dAug, startD, List.map_cons, List.map_nil, List.length_cons, List.length_nil, List.replicate, Nat.reduceAdd, Nat.reduceSub, List.cons_append, List.nil_append, List.append_nil, List.set_cons_zero, List.set_cons_succ, List.getElem?_cons_zero, List.getElem?_cons_succ, gNotN]
  refine ⟨by simp, shD p'.sh, rfl, trivial, ?_⟩
  rw [isN_sh]
  cases hz : p'.sh with
  | none => exact go (by rw [hz]; rfl)
  | some l =>
    refine ⟨by simp, shD p.sh, rfl, by simp, shD p'.sh, rfl, trivial, p.sh, p'.sh, rfl, shA_of hp.s, shA_of hp'.s, ?_⟩
    have e : okSh p.sh p'.sh = sameSh p.sh p'.sh := by
      unfold okSh
      rw [hz]
      rfl
    cases hs : sameSh p.sh p'.sh with
    | true => exact go (e.trans hs)
    | false => exact ⟨trivial, hbad (e.trans hs)⟩
theorem new_Area : NewOk A.Area (s_Area_init A) (s_Area A) := by
  intro ds n q e h a dx ha
  obtain ⟨p, x2, x3, rfl, hp, h⟩ := h
  have back : mup (mup n.mu a (some (.ins A.Area dx [] []))) a none = n.mu := by rw [mup_mup, mup_back ha]
  refine ⟨a, dx, p, x2, x3, rfl, mup_same, hp, ?_⟩
  rcases h with ⟨hk, h⟩ | ⟨p', rfl, hp', hbad, hok⟩
  · exact .inl ⟨hk, by simp only [back]; exact h⟩
  · refine .inr ⟨p', rfl, hp', fun z => by simp only [back]; exact hbad z, fun z => ?_⟩
    rcases hok z with ⟨w, rfl, hw, h⟩ | ⟨od, h⟩
    · refine .inl ⟨w, rfl, hw, rfl, _, _, _, mup_same, ?_⟩
      simp only [mup_mup, mup_back ha]
      exact h
    · exact .inr ⟨od, by simp only [back]; exact h⟩
theorem isi_ar (T : Txt P K mg A) {a : Ar} {k : Bool → Prop} (h : k true) : isiD K (areaD A a) (.ref A.Area) k := ⟨.ref A.Area, .ref A.Area, true, .inr ⟨_, _, _, rfl, rfl, T.i_R⟩, rfl, T.k_R, h⟩
theorem isi_kdR (T : Txt P K mg A) {x : D} {k : Bool → Prop} (hk : (kindD x).isSome = true) (h : k false) : isiD K x (.ref A.Area) k := by
  cases x <;> first | (simp [kindD] at hk; done) | skip
  · exact ⟨.type "NoneType", .ref A.Area, false, .inl ⟨_, rfl, rfl⟩, rfl, T.r_NoneType, h⟩
  · exact ⟨.type "bool", .ref A.Area, false, .inl ⟨_, rfl, rfl⟩, rfl, T.r_bool, h⟩
  · exact ⟨.type "int", .ref A.Area, false, .inl ⟨_, rfl, rfl⟩, rfl, T.r_int, h⟩
  · exact ⟨.type "str", .ref A.Area, false, .inl ⟨_, rfl, rfl⟩, rfl, T.r_str, h⟩
  · exact ⟨.type "list", .ref A.Area, false, .inl ⟨_, rfl, rfl⟩, rfl, T.r_list, h⟩
  · exact ⟨.type "tuple", .ref A.Area, false, .inl ⟨_, rfl, rfl⟩, rfl, T.r_tuple, h⟩
theorem p_need_area (T : Txt P K mg A) (ds : List D) (n : NS) (q : D → NS → Prop) (e : DY) (hl : ds.length = 1) (h : s_need_area A ds n q e) : t_need_area K A cs { nx := fun _ n' => q .non n', rt := q, ex := fun _ => e } (startD N_need_area ds) n := by
  obtain ⟨x, rfl, h⟩ := h
  unfold t_need_area
  simp only [dSeq, dNext, dIfS, dTest, dOp, dVar, dC, dRet, dRetN, dGet, dAnd, dOr, dNot, dAndV, dOrV, dNotV, dIf, dNil, dCons, dTup, dLst, dCB, dM0, dM1, dDrop, dAsg, dgName, dPar, dCal, dChain, dRaise, dRaise2, dFor, diSeq, items, diRange1, diRange2, dLc, dYes, dgTup, dgCons, dgNil, dSl, dPart, dNoPart, dNeg, dPenC, dPenA, dPenL, dPutA, dPutL, dFld, dgFld, dNew, dMet, dLstM, dFrz, dApp, dgIx, dAug, startD, List.map_cons, List.map_nil, List.length_cons, List.length_nil, List.replicate, Nat.reduceAdd, Nat.reduceSub, List.cons_append, List.nil_append, List.append_nil, List.set_cons_zero, List.set_cons_succ, List.getElem?_cons_zero, List.getElem?_cons_succ, gIsi]
  rcases h with ⟨p, rfl, h⟩ | ⟨hk, h⟩
  · exact isi_ar T h
  · exact isi_kdR T hk ⟨trivial, h⟩
theorem eq_adr (T : Txt P K mg A) {n : NS} {p p' : Pl} {neg : Bool} {Q : D → NS → Prop} (h1 : shA p.sh) (h2 : shA p'.sh) (h : Q (.bl (if neg then !(sameA p p') else sameA p p')) n) : gEqO K A.Address (s_Address_eq A) neg (adrD A p) (adrD A p') n Q :=
  ⟨rfl, ⟨.ref A.Address, .inr ⟨_, _, _, rfl, rfl, T.i_A⟩, T.f_A⟩, p, _, rfl, h1, .inl ⟨p', rfl, h2, _, rfl, h⟩⟩
theorem wh_ne {C : Addr} {sp : DSp} {n : NS} {Q : D → NS → Prop} {w w' : Nat} (hw : w ≤ 2) (hw' : w' ≤ 2) (h : Q (.bl (!decide (w = w'))) n) : gEqO K C sp true (whD w) (whD w') n Q := by
  rcases w3 hw with rfl | rfl | rfl <;> rcases w3 hw' with rfl | rfl | rfl <;> exact h
theorem p_Area_eq (T : Txt P K mg A) (ds : List D) (n : NS) (q : D → NS → Prop) (e : DY) (hl : ds.length = 2) (h : s_Area_eq A ds n q e) : t_Area_eq K A cs { nx := fun _ n' => q .non n', rt := q, ex := fun _ => e } (startD N_Area_eq ds) n := by
  obtain ⟨a, b, rfl, ha, hb, wa, wb, h⟩ := h
  unfold t_Area_eq
  simp only [dSeq, dNext, dIfS, dTest, dOp, dVar, dC, dRet, dRetN, dGet, dAnd, dOr, dNot, dAndV, dOrV, dNotV, dIf, dNil, dCons, dTup, dLst, dCB, dM0, dM1, dDrop, dAsg, dgName, dPar, dCal, dChain, dRaise, dRaise2, dFor, diSeq, items, diRange1, diRange2, dLc, dYes, dgTup, dgCons, dgNil, dSl, dPart, dNoPart, dNeg, dPenC, dPenA, dPenL, dPutA, dPutL, dFld, dgFld, dNew, dMet, dLstM, dFrz, dApp, dgIx, dAug, startD, List.map_cons, List.map_nil, List.length_cons, List.length_nil, List.replicate, Nat.reduceAdd, Nat.reduceSub, List.cons_append, List.nil_append, List.append_nil, List.set_cons_zero, List.set_cons_succ, List.getElem?_cons_zero, List.getElem?_cons_succ, gIsi]
  refine isi_ar T ?_
  simp only [Bool.not_true]
  refine ⟨by simp, whD a.w, rfl, by simp, whD b.w, rfl, wh_ne wa wb ?_⟩
  unfold sameAr at h
  by_cases hw : a.w = b.w
  · rw [decide_eq_true hw] at h ⊢
    simp only [Bool.not_true, Bool.true_and] at h ⊢
    refine ⟨by simp, adrD A (fst a), rfl, by simp, adrD A (fst b), rfl, eq_adr T ha hb ?_⟩
    simp only [Bool.false_eq_true, if_false]
    cases hz : sameA (fst a) (fst b) with
    | false =>
      rw [hz] at h
      exact h
    | true =>
      rw [hz] at h
      refine ⟨by simp, adrD A (lst a), rfl, by simp, adrD A (lst b), rfl, eq_adr T ha hb ?_⟩
      exact h
  · rw [decide_eq_false hw] at h ⊢
    exact h
end
end K17

set_option Elab.async false
set_option linter.all false
set_option maxRecDepth 100000
set_option maxHeartbeats 8000000
set_option autoImplicit false
namespace K17
open PySem PySem.Spec PyProof.Rows L2 DL
section
variable {P : Program} {K : PySem.W.Frag} {mg : Str → Option Value} {A : Ad} {cs : List Int}
/-! ### the law's parts -/
theorem p__law_made (ds : List D) (n : NS) (q : D → NS → Prop) (e : DY) (hl : ds.length = 1) (h : s__law_made A ds n q e) : t__law_made K A cs { nx := fun _ n' => q .non n', rt := q, ex := fun _ => e } (startD N__law_made ds) n := by
  obtain ⟨p, rfl, hp, h⟩ := h
  unfold t__law_made
  simp only [dSeq, dNext, dIfS, dTest, dOp, dVar, dC, dRet, dRetN, dGet, dAnd, dOr, dNot, dAndV, dOrV, dNotV, dIf, dNil, dCons, dTup, dLst, dCB, dM0, dM1, dDrop, dAsg, dgName, dPar, dCal, dChain, dRaise, dRaise2, dFor, diSeq, items, diRange1, diRange2, dLc, dYes, dgTup, dgCons, dgNil, dSl, dPart, dNoPart, dNeg, dPenC, dPenA, dPenL, dPutA, dPutL, dFld, dgFld, dNew, dMet, dLstM, dFrz, dApp, dgIx, dAug, startD, List.map_cons, List.map_nil, List.length_cons, List.length_nil, List.replicate, Nat.reduceAdd, Nat.reduceSub, List.cons_append, List.nil_append, List.append_nil, List.set_cons_zero, List.set_cons_succ, List.getElem?_cons_zero, List.getElem?_cons_succ, placeD, gIx]
  refine ⟨_, at0 _ _, _, at1 _ _ _, _, at2 _ _ _ _, _, at3 _ _ _ _ _, _, at4 _ _ _ _ _ _, trivial, trivial, ?_⟩
  exact ⟨_, _, _, _, _, rfl, adr_good hp.s (fun _ => h) (fun z => absurd (z.symm.trans hp.g) Bool.false_ne_true)⟩
theorem p__law_is (T : Txt P K mg A) (ds : List D) (n : NS) (q : D → NS → Prop) (e : DY) (hl : ds.length = 2) (h : s__law_is A ds n q e) : t__law_is K A cs { nx := fun _ n' => q .non n', rt := q, ex := fun _ => e } (startD N__law_is ds) n := by
  obtain ⟨p, rfl, h1, h⟩ := h
  unfold t__law_is
  simp only [dSeq, dNext, dIfS, dTest, dOp, dVar, dC, dRet, dRetN, dGet, dAnd, dOr, dNot, dAndV, dOrV, dNotV, dIf, dNil, dCons, dTup, dLst, dCB, dM0, dM1, dDrop, dAsg, dgName, dPar, dCal, dChain, dRaise, dRaise2, dFor, diSeq, items, diRange1, diRange2, dLc, dYes, dgTup, dgCons, dgNil, dSl, dPart, dNoPart, dNeg, dPenC, dPenA, dPenL, dPutA, dPutL, dFld, dgFld, dNew, dMet, dLstM, dFrz, dApp, dgIx, dAug, startD, List.map_cons, List.map_nil, List.length_cons, List.length_nil, List.replicate, Nat.reduceAdd, Nat.reduceSub, List.cons_append, List.nil_append, List.append_nil, List.set_cons_zero, List.set_cons_succ, List.getElem?_cons_zero, List.getElem?_cons_succ, gIsi]
  refine isi_adr T ?_
  simp only [Bool.not_true]
  refine ⟨by simp, .int p.r, rfl, ?_⟩
  simp only [isiD, kindD, kit_int_int, kit_int_bool, kit_int_str, kit_int_list, kit_int_tuple, kit_bool_int, kit_bool_bool, kit_bool_str, kit_bool_list, kit_bool_tuple, kit_str_int, kit_str_bool, kit_str_str, kit_str_list, kit_str_tuple, kit_non_int, kit_non_bool, kit_non_str, kit_non_list, kit_non_tuple, kit_list_int, kit_list_bool, kit_list_str, kit_list_list, kit_list_tuple, kit_tuple_int, kit_tuple_bool, kit_tuple_str, kit_tuple_list, kit_tuple_tuple]
  refine ⟨by simp, .int p.c, rfl, ?_⟩
  simp only [isiD, kindD, kit_int_int, kit_int_bool, kit_int_str, kit_int_list, kit_int_tuple, kit_bool_int, kit_bool_bool, kit_bool_str, kit_bool_list, kit_bool_tuple, kit_str_int, kit_str_bool, kit_str_str, kit_str_list, kit_str_tuple, kit_non_int, kit_non_bool, kit_non_str, kit_non_list, kit_non_tuple, kit_list_int, kit_list_bool, kit_list_str, kit_list_list, kit_list_tuple, kit_tuple_int, kit_tuple_bool, kit_tuple_str, kit_tuple_list, kit_tuple_tuple]
  refine ⟨by simp, .bl p.fr, rfl, ?_⟩
  simp only [isiD, kindD, kit_int_int, kit_int_bool, kit_int_str, kit_int_list, kit_int_tuple, kit_bool_int, kit_bool_bool, kit_bool_str, kit_bool_list, kit_bool_tuple, kit_str_int, kit_str_bool, kit_str_str, kit_str_list, kit_str_tuple, kit_non_int, kit_non_bool, kit_non_str, kit_non_list, kit_non_tuple, kit_list_int, kit_list_bool, kit_list_str, kit_list_list, kit_list_tuple, kit_tuple_int, kit_tuple_bool, kit_tuple_str, kit_tuple_list, kit_tuple_tuple, Bool.not_true]
  refine ⟨by simp, .bl p.fc, rfl, ?_⟩
  simp only [isiD, kindD, kit_int_int, kit_int_bool, kit_int_str, kit_int_list, kit_int_tuple, kit_bool_int, kit_bool_bool, kit_bool_str, kit_bool_list, kit_bool_tuple, kit_str_int, kit_str_bool, kit_str_str, kit_str_list, kit_str_tuple, kit_non_int, kit_non_bool, kit_non_str, kit_non_list, kit_non_tuple, kit_list_int, kit_list_bool, kit_list_str, kit_list_list, kit_list_tuple, kit_tuple_int, kit_tuple_bool, kit_tuple_str, kit_tuple_list, kit_tuple_tuple, Bool.not_true]
  refine ⟨by simp, .int p.r, rfl, by simp, .int p.c, rfl, by simp, .bl p.fr, rfl, by simp, .bl p.fc, rfl, by simp, shD p.sh, rfl, by decide, ?_⟩
  refine eq_place (p := p) (p' := p) h1 h1 ?_
  rw [decide_eq_true rfl]
  exact h
theorem p__law_in_order (ds : List D) (n : NS) (q : D → NS → Prop) (e : DY) (hl : ds.length = 1) (h : s__law_in_order A ds n q e) : t__law_in_order K A cs { nx := fun _ n' => q .non n', rt := q, ex := fun _ => e } (startD N__law_in_order ds) n := by
  obtain ⟨x, y, rfl, h⟩ := h
  unfold t__law_in_order
  simp only [dSeq, dNext, dIfS, dTest, dOp, dVar, dC, dRet, dRetN, dGet, dAnd, dOr, dNot, dAndV, dOrV, dNotV, dIf, dNil, dCons, dTup, dLst, dCB, dM0, dM1, dDrop, dAsg, dgName, dPar, dCal, dChain, dRaise, dRaise2, dFor, diSeq, items, diRange1, diRange2, dLc, dYes, dgTup, dgCons, dgNil, dSl, dPart, dNoPart, dNeg, dPenC, dPenA, dPenL, dPutA, dPutL, dFld, dgFld, dNew, dMet, dLstM, dFrz, dApp, dgIx, dAug, startD, List.map_cons, List.map_nil, List.length_cons, List.length_nil, List.replicate, Nat.reduceAdd, Nat.reduceSub, List.cons_append, List.nil_append, List.append_nil, List.set_cons_zero, List.set_cons_succ, List.getElem?_cons_zero, List.getElem?_cons_succ, dSortK]
  have key : ∀ (z : IB) (q' : D → NS → Prop), q' (keyD (kOf z)) n → ∃ d1, L2.atI [D.int z.1, .bl z.2] 0 = some d1 ∧ ∃ d2, L2.atI [D.int z.1, .bl z.2] 1 = some d2 ∧ True := fun _ _ _ => ⟨_, at0 _ _, _, at1 _ _ _, trivial⟩
  refine ⟨prD x, prD y, kOf x, kOf y, rfl, fun q' hq => ?_, fun q' hq => ?_, ?_⟩
  · simp only [prD, gIx]
    exact ⟨_, at0 _ _, _, at1 _ _ _, by simp, hq⟩
  · simp only [prD, gIx]
    exact ⟨_, at0 _ _, _, at1 _ _ _, by simp, hq⟩
  · unfold inOrd at h
    cases hz : ahead (kOf y) (kOf x) with
    | true => rw [hz] at h; exact h
    | false => rw [hz] at h; exact h
theorem p__law_normal (ds : List D) (n : NS) (q : D → NS → Prop) (e : DY) (hl : ds.length = 1) (h : s__law_normal A ds n q e) : t__law_normal K A cs { nx := fun _ n' => q .non n', rt := q, ex := fun _ => e } (startD N__law_normal ds) n := by
  obtain ⟨x, y, u, v, w, sh, rfl, hw, h⟩ := h
  unfold t__law_normal
  simp only [dSeq, dNext, dIfS, dTest, dOp, dVar, dC, dRet, dRetN, dGet, dAnd, dOr, dNot, dAndV, dOrV, dNotV, dIf, dNil, dCons, dTup, dLst, dCB, dM0, dM1, dDrop, dAsg, dgName, dPar, dCal, dChain, dRaise, dRaise2, dFor, diSeq, items, diRange1, diRange2, dLc, dYes, dgTup, dgCons, dgNil, dSl, dPart, dNoPart, dNeg, dPenC, dPenA, dPenL, dPutA, dPutL, dFld, dgFld, dNew, dMet, dLstM, dFrz, dApp, dgIx, dAug, startD, List.map_cons, List.map_nil, List.length_cons, List.length_nil, List.replicate, Nat.reduceAdd, Nat.reduceSub, List.cons_append, List.nil_append, List.append_nil, List.set_cons_zero, List.set_cons_succ, List.getElem?_cons_zero, List.getElem?_cons_succ, areaT, gEq]
  refine ⟨trivial, trivial, x, y, rfl, trivial, u, v, rfl, ?_⟩
  unfold nrm nRows nCols normT at h
  rcases w3 hw with rfl | rfl | rfl
  · simp only [whD, eqD, scEq] at h ⊢
    exact ⟨by simp, h⟩
  · simp only [whD, eqD, scEq] at h ⊢
    exact ⟨by simp, by simp, by simp, by simp, h⟩
  · simp only [whD, eqD, scEq] at h ⊢
    exact ⟨by simp, by simp, by simp, by simp, h⟩
end

/-! ### order -/
theorem ahead_asym {a b : IB} (h : ahead a b = true) : ahead b a = false := by
  unfold ahead at h ⊢
  have z := SrtO.lexB_iff.mp h
  refine SrtO.lexB_no.mpr fun y => ?_
  simp only at z y
  omega
theorem ahead_eq {x y : IB} (h1 : ahead (kOf y) (kOf x) = false) (h2 : ahead (kOf x) (kOf y) = false) : x = y := by
  unfold ahead at h1 h2
  have z1 := SrtO.lexB_no.mp h1
  have z2 := SrtO.lexB_no.mp h2
  obtain ⟨i, p⟩ := x
  obtain ⟨j, q⟩ := y
  simp only [kOf] at z1 z2
  have e : i = j := by omega
  subst e
  cases p <;> cases q <;> first | rfl | (simp [b2i] at z1 z2)
theorem inOrd_swap (x y : IB) : inOrd y x = inOrd x y := by
  unfold inOrd
  cases h1 : ahead (kOf y) (kOf x) with
  | true => rw [ahead_asym h1]; rfl
  | false =>
    cases h2 : ahead (kOf x) (kOf y) with
    | true => rfl
    | false => rw [ahead_eq h1 h2]
theorem inOrd_idem (x y : IB) : inOrd (inOrd x y).1 (inOrd x y).2 = inOrd x y := by
  rcases inOrd_or x y with e | e
  · rw [e]
    exact e
  · rw [e]
    show inOrd y x = (y, x)
    rw [inOrd_swap, e]
theorem nRows_idem (x y : IB) (w : Nat) : nRows (nRows x y w).1 (nRows x y w).2 w = nRows x y w := by
  unfold nRows
  split
  · rfl
  · exact inOrd_idem x y
theorem nCols_idem (x y : IB) (w : Nat) : nCols (nCols x y w).1 (nCols x y w).2 w = nCols x y w := by
  unfold nCols
  split
  · rfl
  · exact inOrd_idem x y
theorem nrm_idem (x y u v : IB) (w : Nat) (sh : Option (List Nat)) : nrm (nrm x y u v w sh).t (nrm x y u v w sh).b (nrm x y u v w sh).l (nrm x y u v w sh).r w sh = nrm x y u v w sh := by
  show Ar.mk (nRows (nRows x y w).1 (nRows x y w).2 w).1 (nRows (nRows x y w).1 (nRows x y w).2 w).2 (nCols (nCols u v w).1 (nCols u v w).2 w).1 (nCols (nCols u v w).1 (nCols u v w).2 w).2 w sh = _
  rw [nRows_idem, nCols_idem]
  rfl
theorem nrm_swap (x y u v : IB) (w : Nat) (sh : Option (List Nat)) : nrm y x u v w sh = nrm x y u v w sh := by
  have e : nRows y x w = nRows x y w := by
    unfold nRows
    rw [inOrd_swap]
  unfold nrm
  rw [e]

section
variable {P : Program} {K : PySem.W.Frag} {mg : Str → Option Value} {A : Ad} {cs : List Int}
theorem p__law_area_made (ds : List D) (n : NS) (q : D → NS → Prop) (e : DY) (hl : ds.length = 1) (h : s__law_area_made A ds n q e) : t__law_area_made K A cs { nx := fun _ n' => q .non n', rt := q, ex := fun _ => e } (startD N__law_area_made ds) n := by
  obtain ⟨x, y, u, v, w, sh, rfl, T, h⟩ := h
  unfold t__law_area_made
  simp only [dSeq, dNext, dIfS, dTest, dOp, dVar, dC, dRet, dRetN, dGet, dAnd, dOr, dNot, dAndV, dOrV, dNotV, dIf, dNil, dCons, dTup, dLst, dCB, dM0, dM1, dDrop, dAsg, dgName, dPar, dCal, dChain, dRaise, dRaise2, dFor, diSeq, items, diRange1, diRange2, dLc, dYes, dgTup, dgCons, dgNil, dSl, dPart, dNoPart, dNeg, dPenC, dPenA, dPenL, dPutA, dPutL, dFld, dgFld, dNew, dMet, dLstM, dFrz, dApp, dgIx, dAug, startD, List.map_cons, List.map_nil, List.length_cons, List.length_nil, List.replicate, Nat.reduceAdd, Nat.reduceSub, List.cons_append, List.nil_append, List.append_nil, List.set_cons_zero, List.set_cons_succ, List.getElem?_cons_zero, List.getElem?_cons_succ]
  have g1 : PlOk ⟨x.1, u.1, x.2, u.2, sh⟩ := ⟨grid_iff.mpr ⟨T.x.1, T.x.2, T.u.1, T.u.2⟩, T.s⟩
  have g2 : PlOk ⟨y.1, v.1, y.2, v.2, sh⟩ := ⟨grid_iff.mpr ⟨T.y.1, T.y.2, T.v.1, T.v.2⟩, T.s⟩
  refine ⟨trivial, x, y, u, v, w, sh, .inl ⟨rfl, trivial, _, rfl, g1, trivial, x, y, u, v, w, sh, .inr ⟨rfl, trivial, _, rfl, g2, ?_⟩⟩⟩
  simp only [areaT, gIx]
  have ok : okSh sh sh = true := by
    unfold okSh
    rw [sameSh_self, Bool.or_true]
  refine ⟨_, at2 _ _ _ _, trivial, trivial, _, _, _, rfl, g1, .inr ⟨_, rfl, g2, fun z => absurd (z.symm.trans ok) Bool.false_ne_true, fun _ => .inl ⟨w, rfl, T.w, ?_⟩⟩⟩
  exact h
end

section
variable {P : Program} {K : PySem.W.Frag} {mg : Str → Option Value} {A : Ad} {cs : List Int}
theorem p__law_corner (ds : List D) (n : NS) (q : D → NS → Prop) (e : DY) (hl : ds.length = 2) (h : s__law_corner A ds n q e) : t__law_corner K A cs { nx := fun _ n' => q .non n', rt := q, ex := fun _ => e } (startD N__law_corner ds) n := by
  obtain ⟨x, y, u, v, w, sh, h⟩ := h
  unfold t__law_corner
  rcases h with ⟨rfl, h⟩ | ⟨rfl, h⟩
  · simp only [dSeq, dNext, dIfS, dTest, dOp, dVar, dC, dRet, dRetN, dGet, dAnd, dOr, dNot, dAndV, dOrV, dNotV, dIf, dNil, dCons, dTup, dLst, dCB, dM0, dM1, dDrop, dAsg, dgName, dPar, dCal, dChain, dRaise, dRaise2, dFor, diSeq, items, diRange1, diRange2, dLc, dYes, dgTup, dgCons, dgNil, dSl, dPart, dNoPart, dNeg, dPenC, dPenA, dPenL, dPutA, dPutL, dFld, dgFld, dNew, dMet, dLstM, dFrz, dApp, dgIx, dAug, startD, List.map_cons, List.map_nil, List.length_cons, List.length_nil, List.replicate, Nat.reduceAdd, Nat.reduceSub, List.cons_append, List.nil_append, List.append_nil, List.set_cons_zero, List.set_cons_succ, List.getElem?_cons_zero, List.getElem?_cons_succ, areaT, gIx]
    refine ⟨trivial, _, at0 _ _, ?_⟩
    simp only [prD, gIx]
    refine ⟨_, at0 _ _, _, at0 _ _, ?_⟩
    simp only [prD, gIx]
    refine ⟨_, at0 _ _, _, at0 _ _, ?_⟩
    simp only [prD, gIx]
    refine ⟨_, at1 _ _ _, _, at0 _ _, ?_⟩
    simp only [prD, gIx]
    exact ⟨_, at1 _ _ _, by simp, h⟩
  · simp only [dSeq, dNext, dIfS, dTest, dOp, dVar, dC, dRet, dRetN, dGet, dAnd, dOr, dNot, dAndV, dOrV, dNotV, dIf, dNil, dCons, dTup, dLst, dCB, dM0, dM1, dDrop, dAsg, dgName, dPar, dCal, dChain, dRaise, dRaise2, dFor, diSeq, items, diRange1, diRange2, dLc, dYes, dgTup, dgCons, dgNil, dSl, dPart, dNoPart, dNeg, dPenC, dPenA, dPenL, dPutA, dPutL, dFld, dgFld, dNew, dMet, dLstM, dFrz, dApp, dgIx, dAug, startD, List.map_cons, List.map_nil, List.length_cons, List.length_nil, List.replicate, Nat.reduceAdd, Nat.reduceSub, List.cons_append, List.nil_append, List.append_nil, List.set_cons_zero, List.set_cons_succ, List.getElem?_cons_zero, List.getElem?_cons_succ, areaT, gIx]
    refine ⟨trivial, _, at1 _ _ _, ?_⟩
    simp only [prD, gIx]
    refine ⟨_, at0 _ _, _, at1 _ _ _, ?_⟩
    simp only [prD, gIx]
    refine ⟨_, at0 _ _, _, at1 _ _ _, ?_⟩
    simp only [prD, gIx]
    refine ⟨_, at1 _ _ _, _, at1 _ _ _, ?_⟩
    simp only [prD, gIx]
    exact ⟨_, at1 _ _ _, by simp, h⟩
theorem wh_eq {w : Nat} (hw : w ≤ 2) {k : Bool → Prop} (h : k true) : eqD (whD w) (whD w) k := by
  rcases w3 hw with rfl | rfl | rfl
  · exact h
  · show k (decide (COLS = COLS))
    rw [decide_eq_true rfl]
    exact h
  · show k (decide (ROWS = ROWS))
    rw [decide_eq_true rfl]
    exact h
theorem sh_eq {sh : Option (List Nat)} {k : Bool → Prop} (h : k true) : eqD (shD sh) (shD sh) k := by
  cases sh with
  | none => exact h
  | some l =>
    show k (decide (l = l))
    rw [decide_eq_true rfl]
    exact h
theorem ii_eq {i j : Int} {k : Bool → Prop} (h : k true) : eqD (.tup [.int i, .int j]) (.tup [.int i, .int j]) k := by
  refine ⟨_, _, rfl, rfl, rfl, rfl, ?_⟩
  simp only [PyData.eqv, PyData.eqvAll, beq_self_eq_true, Bool.and_true]
  exact h
theorem p__law_is_area (T : Txt P K mg A) (ds : List D) (n : NS) (q : D → NS → Prop) (e : DY) (hl : ds.length = 2) (h : s__law_is_area A ds n q e) : t__law_is_area K A cs { nx := fun _ n' => q .non n', rt := q, ex := fun _ => e } (startD N__law_is_area ds) n := by
  obtain ⟨a, rfl, hs, hw, h⟩ := h
  unfold t__law_is_area
  simp only [dSeq, dNext, dIfS, dTest, dOp, dVar, dC, dRet, dRetN, dGet, dAnd, dOr, dNot, dAndV, dOrV, dNotV, dIf, dNil, dCons, dTup, dLst, dCB, dM0, dM1, dDrop, dAsg, dgName, dPar, dCal, dChain, dRaise, dRaise2, dFor, diSeq, items, diRange1, diRange2, dLc, dYes, dgTup, dgCons, dgNil, dSl, dPart, dNoPart, dNeg, dPenC, dPenA, dPenL, dPutA, dPutL, dFld, dgFld, dNew, dMet, dLstM, dFrz, dApp, dgIx, dAug, startD, List.map_cons, List.map_nil, List.length_cons, List.length_nil, List.replicate, Nat.reduceAdd, Nat.reduceSub, List.cons_append, List.nil_append, List.append_nil, List.set_cons_zero, List.set_cons_succ, List.getElem?_cons_zero, List.getElem?_cons_succ, gIsi]
  refine isi_ar T ?_
  simp only [Bool.not_true, normT, areaT, gIx, gNe]
  refine ⟨by simp, whD a.w, rfl, _, at2 _ _ _ _, wh_eq hw ?_⟩
  simp only [Bool.not_true]
  refine ⟨by simp, shD a.sh, rfl, _, at3 _ _ _ _ _, sh_eq ?_⟩
  simp only [Bool.not_true]
  refine ⟨by simp, adrD A (fst a), rfl, trivial, a.t, a.b, a.l, a.r, a.w, a.sh, .inl ⟨rfl, trivial, fst a, rfl, hs, ?_⟩⟩
  simp only [Bool.not_true]
  refine ⟨by simp, adrD A (lst a), rfl, trivial, a.t, a.b, a.l, a.r, a.w, a.sh, .inr ⟨rfl, trivial, lst a, rfl, hs, ?_⟩⟩
  simp only [Bool.not_true]
  refine ⟨_, at0 _ _, ?_⟩
  simp only [gIx]
  refine ⟨_, at1 _ _ _, ?_⟩
  simp only [prD, gIx]
  refine ⟨_, at0 _ _, _, at0 _ _, ?_⟩
  simp only [gIx]
  refine ⟨_, at0 _ _, ?_⟩
  simp only [prD, gIx]
  refine ⟨_, at0 _ _, ?_⟩
  simp only [DL.gSub, gAdd]
  refine ⟨_, at1 _ _ _, ?_⟩
  simp only [gIx]
  refine ⟨_, at1 _ _ _, ?_⟩
  simp only [prD, gIx]
  refine ⟨_, at0 _ _, _, at1 _ _ _, ?_⟩
  simp only [gIx]
  refine ⟨_, at0 _ _, ?_⟩
  simp only [prD, gIx]
  refine ⟨_, at0 _ _, ?_⟩
  simp only [gI0]
  refine ⟨by simp, .int (a.b.1 - a.t.1 + 1), rfl, by simp, .int (a.r.1 - a.l.1 + 1), rfl, by simp, by simp, ?_⟩
  simp only [gEq]
  exact ii_eq h
theorem cor_elem {b1 b2 b hi : Int} {j : Int} {x3 x4 x5 : Option D} {t0 : Nat} {m : Addr → Option MO} {Q : D → NS → Prop} (hb : L2.atI [D.int b1, .int b2] j = some (.int b)) (h1 : 0 < hi) (h2 : hi ≤ 7) (hn : t0 + 5 < 1000000)
    (h : ∀ x t, b + 1 ≤ x.1 → x.1 ≤ b + 7 → t0 ≤ t → t ≤ t0 + 2 → Q (prD x) ⟨t, m⟩) :
    dTup (dCons (dOp gAdd (dOp gAdd (dOp gIx (dVar 1) (dC (.int j))) (dC (.int 1))) (dCal 2 (s__law_draw A) (dCons (dVar 0) (dCons (dVar 2) dNil)))) (dCons (dOp gEq (dCal 2 (s__law_draw A) (dCons (dVar 0) (dCons (dC (.int 3)) dNil))) (dC (.int 0))) dNil)) [some .pen, some (.tup [.int b1, .int b2]), some (.int hi), x3, x4, x5] ⟨t0, m⟩ Q noX := by
  simp only [dSeq, dNext, dIfS, dTest, dOp, dVar, dC, dRet, dRetN, dGet, dAnd, dOr, dNot, dAndV, dOrV, dNotV, dIf, dNil, dCons, dTup, dLst, dCB, dM0, dM1, dDrop, dAsg, dgName, dPar, dCal, dChain, dRaise, dRaise2, dFor, diSeq, items, diRange1, diRange2, dLc, dYes, dgTup, dgCons, dgNil, dSl, dPart, dNoPart, dNeg, dPenC, dPenA, dPenL, dPutA, dPutL, dFld, dgFld, dNew, dMet, dLstM, dFrz, dApp, dgIx, dAug, startD, List.map_cons, List.map_nil, List.length_cons, List.length_nil, List.replicate, Nat.reduceAdd, Nat.reduceSub, List.cons_append, List.nil_append, List.append_nil, List.set_cons_zero, List.set_cons_succ, List.getElem?_cons_zero, List.getElem?_cons_succ, gIx, gAdd]
  refine ⟨_, hb, ?_⟩
  simp only
  refine ⟨trivial, hi, rfl, h1, by omega, by unfold lim; simp only; omega, fun k t k1 k2 h3 h4 => ?_⟩
  simp only at h3 h4 ⊢
  refine ⟨trivial, 3, rfl, by decide, by decide, by unfold lim; simp only; omega, fun k' t' k3 k4 h5 h6 => ?_⟩
  simp only at h5 h6 ⊢
  simp only [gEq, eqD, scEq]
  exact ⟨by simp, h (b + 1 + k, decide (k' = 0)) t' (by simp only; omega) (by simp only; omega) (by omega) (by omega)⟩
theorem p__law_corners (ds : List D) (n : NS) (q : D → NS → Prop) (e : DY) (hl : ds.length = 2) (h : s__law_corners A ds n q e) : t__law_corners K A cs { nx := fun _ n' => q .non n', rt := q, ex := fun _ => e } (startD N__law_corners ds) n := by
  obtain ⟨t0, μ⟩ := n
  obtain ⟨b1, b2, rfl, hn, h⟩ := h
  simp only [lim] at hn h
  unfold t__law_corners
  simp only [dSeq, dNext, dIfS, dTest, dOp, dVar, dC, dRet, dRetN, dGet, dAnd, dOr, dNot, dAndV, dOrV, dNotV, dIf, dNil, dCons, dTup, dLst, dCB, dM0, dM1, dDrop, dAsg, dgName, dPar, dCal, dChain, dRaise, dRaise2, dFor, diSeq, items, diRange1, diRange2, dLc, dYes, dgTup, dgCons, dgNil, dSl, dPart, dNoPart, dNeg, dPenC, dPenA, dPenL, dPutA, dPutL, dFld, dgFld, dNew, dMet, dLstM, dFrz, dApp, dgIx, dAug, startD, List.map_cons, List.map_nil, List.length_cons, List.length_nil, List.replicate, Nat.reduceAdd, Nat.reduceSub, List.cons_append, List.nil_append, List.append_nil, List.set_cons_zero, List.set_cons_succ, List.getElem?_cons_zero, List.getElem?_cons_succ, gMul, gAdd]
  refine ⟨trivial, 3, rfl, by decide, by decide, by unfold lim; simp only; omega, fun k0 t1 k1 k2 h1 h2 => ?_⟩
  simp only at h1 h2
  have e2 : (2 : Int).toNat = 2 := rfl
  have er : rangeD 0 2 = [.int 0, .int 1] := rfl
  rw [e2, er]
  simp only [dLcL, dgName, dYes, gI]
  refine ⟨mul_l (by omega), ?_⟩
  refine ⟨by decide, by decide, by decide, fun m1 _ => cor_elem (at0 _ _) (by omega) (by omega) (by omega) fun x t2 x1 x2 h3 h4 => ⟨rfl, by simp, fun m2 _ => cor_elem (at0 _ _) (by omega) (by omega) (by simp only; omega) fun y t3 y1 y2 h5 h6 => ⟨rfl, ?_⟩⟩⟩
  simp only at h3 h4 h5 h6 ⊢
  refine ⟨by decide, by decide, by decide, fun m3 _ => cor_elem (at1 _ _ _) (by omega) (by omega) (by omega) fun u t4 u1 u2 h7 h8 => ⟨rfl, by simp, fun m4 _ => cor_elem (at1 _ _ _) (by omega) (by omega) (by simp only; omega) fun v t5 v1 v2 h9 h10 => ⟨rfl, ?_⟩⟩⟩
  simp only at h7 h8 h9 h10 ⊢
  exact ⟨by simp, h x y u v t5 ⟨x1, x2⟩ ⟨y1, y2⟩ ⟨u1, u2⟩ ⟨v1, v2⟩ (by omega) (by omega)⟩
theorem p__law_area (ds : List D) (n : NS) (q : D → NS → Prop) (e : DY) (hl : ds.length = 3) (h : s__law_area A ds n q e) : t__law_area K A cs { nx := fun _ n' => q .non n', rt := q, ex := fun _ => e } (startD N__law_area ds) n := by
  obtain ⟨t0, μ⟩ := n
  obtain ⟨b1, b2, ss, rfl, g1, g2, g3, g4, hz, hz2, hs, hn, h⟩ := h
  simp only [lim] at hn h
  unfold t__law_area
  simp only [dSeq, dNext, dIfS, dTest, dOp, dVar, dC, dRet, dRetN, dGet, dAnd, dOr, dNot, dAndV, dOrV, dNotV, dIf, dNil, dCons, dTup, dLst, dCB, dM0, dM1, dDrop, dAsg, dgName, dPar, dCal, dChain, dRaise, dRaise2, dFor, diSeq, items, diRange1, diRange2, dLc, dYes, dgTup, dgCons, dgNil, dSl, dPart, dNoPart, dNeg, dPenC, dPenA, dPenL, dPutA, dPutL, dFld, dgFld, dNew, dMet, dLstM, dFrz, dApp, dgIx, dAug, startD, List.map_cons, List.map_nil, List.length_cons, List.length_nil, List.replicate, Nat.reduceAdd, Nat.reduceSub, List.cons_append, List.nil_append, List.append_nil, List.set_cons_zero, List.set_cons_succ, List.getElem?_cons_zero, List.getElem?_cons_succ]
  refine ⟨trivial, b1, b2, rfl, by unfold lim; simp only; omega, fun x y u v t1 hx hy hu hv h1 h2 => ?_⟩
  simp only at h1 h2
  refine ⟨rfl, ?_⟩
  unfold u__law_area_2
  simp only [dSeq, dNext, dIfS, dTest, dOp, dVar, dC, dRet, dRetN, dGet, dAnd, dOr, dNot, dAndV, dOrV, dNotV, dIf, dNil, dCons, dTup, dLst, dCB, dM0, dM1, dDrop, dAsg, dgName, dPar, dCal, dChain, dRaise, dRaise2, dFor, diSeq, items, diRange1, diRange2, dLc, dYes, dgTup, dgCons, dgNil, dSl, dPart, dNoPart, dNeg, dPenC, dPenA, dPenL, dPutA, dPutL, dFld, dgFld, dNew, dMet, dLstM, dFrz, dApp, dgIx, dAug, startD, List.map_cons, List.map_nil, List.length_cons, List.length_nil, List.replicate, Nat.reduceAdd, Nat.reduceSub, List.cons_append, List.nil_append, List.append_nil, List.set_cons_zero, List.set_cons_succ, List.getElem?_cons_zero, List.getElem?_cons_succ]
  refine ⟨by simp, trivial, _, rfl, by decide, by decide, by unfold lim; simp only; omega, fun w t2 hw h3 h4 => ?_⟩
  simp only at h3 h4
  unfold u__law_area_3
  simp only [dSeq, dNext, dIfS, dTest, dOp, dVar, dC, dRet, dRetN, dGet, dAnd, dOr, dNot, dAndV, dOrV, dNotV, dIf, dNil, dCons, dTup, dLst, dCB, dM0, dM1, dDrop, dAsg, dgName, dPar, dCal, dChain, dRaise, dRaise2, dFor, diSeq, items, diRange1, diRange2, dLc, dYes, dgTup, dgCons, dgNil, dSl, dPart, dNoPart, dNeg, dPenC, dPenA, dPenL, dPutA, dPutL, dFld, dgFld, dNew, dMet, dLstM, dFrz, dApp, dgIx, dAug, startD, List.map_cons, List.map_nil, List.length_cons, List.length_nil, List.replicate, Nat.reduceAdd, Nat.reduceSub, List.cons_append, List.nil_append, List.append_nil, List.set_cons_zero, List.set_cons_succ, List.getElem?_cons_zero, List.getElem?_cons_succ]
  refine ⟨trivial, ss, rfl, hz, by omega, by unfold lim; simp only; omega, fun s t3 hss h5 h6 => ?_⟩
  simp only at h5 h6
  obtain ⟨sh, rfl, hsh⟩ := hs s hss
  obtain ⟨w', rfl, hw'⟩ : ∃ w' : Nat, w = whD w' ∧ w' ≤ 2 := by
    simp only [List.mem_cons, List.not_mem_nil, or_false] at hw
    rcases hw with rfl | rfl | rfl | rfl | rfl
    · exact ⟨0, rfl, by decide⟩
    · exact ⟨0, rfl, by decide⟩
    · exact ⟨0, rfl, by decide⟩
    · exact ⟨1, rfl, by decide⟩
    · exact ⟨2, rfl, by decide⟩
  exact ⟨by simp, h x y u v w' sh t3 ⟨⟨by omega, by omega⟩, ⟨by omega, by omega⟩, ⟨by omega, by omega⟩, ⟨by omega, by omega⟩, hw', hsh⟩ hss (by omega) (by omega)⟩
end

theorem sameA_self (p : Pl) : sameA p p = true := by
  unfold sameA
  rw [sameSh_self]
  simp
theorem sameAr_self (a : Ar) : sameAr a a = true := by
  unfold sameAr
  rw [sameA_self, sameA_self]
  simp
theorem sameAr_sh (a : Ar) {sh : Option (List Nat)} (h : sameSh sh a.sh = true) : sameAr { a with sh := sh } a = true := by
  unfold sameAr sameA
  simp only [fst, lst, h, decide_true, Bool.and_self]
section
variable {P : Program} {K : PySem.W.Frag} {mg : Str → Option Value} {A : Ad} {cs : List Int} {q : D → NS → Prop} {e : DX} {n : NS}
abbrev kk (q : D → NS → Prop) (e : DX) : DEnds := { nx := fun _ n' => q .non n', rt := q, ex := e }
theorem kd_str {l : List Nat} (h : l.length ≤ 1000) : kd (.str l) := ⟨rfl, fun l' e => by cases e; exact h⟩
theorem eq_ar (T : Txt P K mg A) {a b : Ar} {neg : Bool} {Q : D → NS → Prop} (h1 : shA a.sh) (h2 : shA b.sh) (w1 : a.w ≤ 2) (w2 : b.w ≤ 2) (h : Q (.bl (if neg then !(sameAr a b) else sameAr a b)) n) : gEqO K A.Area (s_Area_eq A) neg (areaD A a) (areaD A b) n Q :=
  ⟨rfl, ⟨.ref A.Area, .inr ⟨_, _, _, rfl, rfl, T.i_R⟩, T.f_R⟩, a, b, rfl, h1, h2, w1, w2, _, rfl, h⟩
theorem str_self {C : Addr} {sp : DSp} {Q : D → NS → Prop} {l : List Nat} (h : Q (.bl false) n) : gEqO K C sp true (.str l) (.str l) n Q := by
  show Q (.bl (!decide (l = l))) n
  rw [decide_eq_true rfl]
  exact h
end
end K17

set_option Elab.async false
set_option linter.all false
set_option maxRecDepth 100000
set_option maxHeartbeats 8000000
set_option autoImplicit false
namespace K17
open PySem PySem.Spec PyProof.Rows L2 DL
theorem inOrd_le {x y : IB} (hf : x.2 = false) (hg : y.2 = false) (h : x.1 ≤ y.1) : inOrd x y = (x, y) := by
  unfold inOrd
  rw [if_neg ?_]
  intro z
  unfold ahead at z
  have z := SrtO.lexB_iff.mp z
  simp only [kOf, hf, hg] at z
  omega
theorem nrm_bare {t l b r : Int} {w : Nat} {sh : Option (List Nat)} (h : ArN (bareAr t l b r w sh)) : nrm (t, false) (b, false) (l, false) (r, false) w sh = bareAr t l b r w sh := by
  unfold nrm nRows nCols
  have e1 : inOrd (t, false) (b, false) = ((t, false), (b, false)) := inOrd_le rfl rfl h.tb
  have e2 : inOrd (l, false) (r, false) = ((l, false), (r, false)) := inOrd_le rfl rfl h.lr
  rw [e1, e2]
  rcases w3 h.w with rfl | rfl | rfl
  · rfl
  · obtain ⟨a1, a2⟩ := h.w1 rfl
    simp only [bareAr] at a1 a2
    subst a1; subst a2
    rfl
  · obtain ⟨a1, a2⟩ := h.w2 rfl
    simp only [bareAr] at a1 a2
    subst a1; subst a2
    rfl
theorem ok_self (sh : Option (List Nat)) : okSh sh sh = true := by
  unfold okSh
  rw [sameSh_self, Bool.or_true]
section
variable {P : Program} {K : PySem.W.Frag} {mg : Str → Option Value} {A : Ad} {cs : List Int}
theorem p_plain_area (ds : List D) (n : NS) (q : D → NS → Prop) (e : DY) (hl : ds.length = 6) (h : s_plain_area A ds n q e) : t_plain_area K A cs { nx := fun _ n' => q .non n', rt := q, ex := fun _ => e } (startD N_plain_area ds) n := by
  obtain ⟨t, l, b, r, sh, w, rfl, ha, h⟩ := h
  have g1 : PlOk ⟨t, l, false, false, sh⟩ := pl_fst ha.toArOk
  have g2 : PlOk ⟨b, r, false, false, sh⟩ := pl_lst ha.toArOk
  unfold t_plain_area
  simp only [dSeq, dNext, dIfS, dTest, dOp, dVar, dC, dRet, dRetN, dGet, dAnd, dOr, dNot, dAndV, dOrV, dNotV, dIf, dNil, dCons, dTup, dLst, dCB, dM0, dM1, dDrop, dAsg, dgName, dPar, dCal, dChain, dRaise, dRaise2, dFor, diSeq, items, diRange1, diRange2, dLc, dYes, dgTup, dgCons, dgNil, dSl, dPart, dNoPart, dNeg, dPenC, dPenA, dPenL, dPutA, dPutL, dFld, dgFld, dNew, dMet, dLstM, dFrz, dApp, dgIx, dAug, startD, List.map_cons, List.map_nil, List.length_cons, List.length_nil, List.replicate, Nat.reduceAdd, Nat.reduceSub, List.cons_append, List.nil_append, List.append_nil, List.set_cons_zero, List.set_cons_succ, List.getElem?_cons_zero, List.getElem?_cons_succ]
  refine ⟨trivial, trivial, _, _, _, _, _, rfl, adr_good ha.s (fun _ => ?_) fun z => absurd (z.symm.trans g1.g) Bool.false_ne_true⟩
  refine ⟨trivial, trivial, _, _, _, _, _, rfl, adr_good ha.s (fun _ => ?_) fun z => absurd (z.symm.trans g2.g) Bool.false_ne_true⟩
  refine ⟨trivial, trivial, ⟨t, l, false, false, sh⟩, _, _, rfl, g1, .inr ⟨⟨b, r, false, false, sh⟩, rfl, g2, fun z => absurd (z.symm.trans (ok_self sh)) Bool.false_ne_true, fun _ => .inl ⟨w, rfl, ha.w, ?_⟩⟩⟩
  have e : nrmP ⟨t, l, false, false, sh⟩ ⟨b, r, false, false, sh⟩ w = bareAr t l b r w sh := nrm_bare ha
  simp only [e]
  exact h
theorem p_may_meet (ds : List D) (n : NS) (q : D → NS → Prop) (e : DY) (hl : ds.length = 2) (h : s_may_meet A ds n q e) : t_may_meet K A cs { nx := fun _ n' => q .non n', rt := q, ex := fun _ => e } (startD N_may_meet ds) n := by
  obtain ⟨a, b, rfl, ha, hb, h⟩ := h
  unfold t_may_meet
  simp only [dSeq, dNext, dIfS, dTest, dOp, dVar, dC, dRet, dRetN, dGet, dAnd, dOr, dNot, dAndV, dOrV, dNotV, dIf, dNil, dCons, dTup, dLst, dCB, dM0, dM1, dDrop, dAsg, dgName, dPar, dCal, dChain, dRaise, dRaise2, dFor, diSeq, items, diRange1, diRange2, dLc, dYes, dgTup, dgCons, dgNil, dSl, dPart, dNoPart, dNeg, dPenC, dPenA, dPenL, dPutA, dPutL, dFld, dgFld, dNew, dMet, dLstM, dFrz, dApp, dgIx, dAug, startD, List.map_cons, List.map_nil, List.length_cons, List.length_nil, List.replicate, Nat.reduceAdd, Nat.reduceSub, List.cons_append, List.nil_append, List.append_nil, List.set_cons_zero, List.set_cons_succ, List.getElem?_cons_zero, List.getElem?_cons_succ, gIsN, isN_sh]
  unfold meetSh at h
  cases a with
  | none => exact ⟨by decide, h⟩
  | some a =>
    refine ⟨by decide, by decide, ?_⟩
    cases b with
    | none => exact h
    | some b => exact ⟨trivial, _, _, rfl, ha, hb, h⟩
theorem wh_cmp {w w' : Nat} (hw : w ≤ 2) (hw' : w' ≤ 2) {k : Bool → Prop} (h : k (decide (w = w'))) : eqD (whD w) (whD w') k := by
  rcases w3 hw with rfl | rfl | rfl <;> rcases w3 hw' with rfl | rfl | rfl <;> exact h
theorem sharedN {a b c : Ar} (ha : ArN a) (hb : ArN b) (h : shared a b = some c) : ArN c ∧ In c a := by
  unfold shared at h
  split at h
  · cases h
  · rename_i z
    simp only [Option.some.injEq] at h
    have z1 : imax a.t.1 b.t.1 ≤ imin a.b.1 b.b.1 := by
      refine Int.not_lt.mp fun y => z (.inl y)
    have z2 : imax a.l.1 b.l.1 ≤ imin a.r.1 b.r.1 := by
      refine Int.not_lt.mp fun y => z (.inr (.inl y))
    have t1 := ha.t.1; have t2 := ha.t.2; have b1 := ha.b.1; have b2 := ha.b.2; have l1 := ha.l.1; have l2 := ha.l.2; have r1 := ha.r.1; have r2 := ha.r.2
    have t3 := hb.t.1; have t4 := hb.t.2; have b3 := hb.b.1; have b4 := hb.b.2; have l3 := hb.l.1; have l4 := hb.l.2; have r3 := hb.r.1; have r4 := hb.r.2
    have e1 : imax a.t.1 b.t.1 = a.t.1 ∨ imax a.t.1 b.t.1 = b.t.1 := by unfold imax; split <;> simp
    have e2 : imin a.b.1 b.b.1 = a.b.1 ∨ imin a.b.1 b.b.1 = b.b.1 := by unfold imin; split <;> simp
    have e3 : imax a.l.1 b.l.1 = a.l.1 ∨ imax a.l.1 b.l.1 = b.l.1 := by unfold imax; split <;> simp
    have e4 : imin a.r.1 b.r.1 = a.r.1 ∨ imin a.r.1 b.r.1 = b.r.1 := by unfold imin; split <;> simp
    have f1 : a.t.1 ≤ imax a.t.1 b.t.1 := by unfold imax; split <;> omega
    have f2 : imin a.b.1 b.b.1 ≤ a.b.1 := by unfold imin; split <;> omega
    have f3 : a.l.1 ≤ imax a.l.1 b.l.1 := by unfold imax; split <;> omega
    have f4 : imin a.r.1 b.r.1 ≤ a.r.1 := by unfold imin; split <;> omega
    subst h
    refine ⟨⟨⟨⟨?_, ?_⟩, ⟨?_, ?_⟩, ⟨?_, ?_⟩, ⟨?_, ?_⟩, ?_, ?_⟩, z1, z2, ?_, ?_⟩, ⟨f1, f2, f3, f4, z1, z2⟩⟩ <;> simp only [bareAr]
    · omega
    · omega
    · omega
    · omega
    · omega
    · omega
    · omega
    · omega
    · have := ha.w
      split <;> omega
    · split
      · exact hb.s
      · exact ha.s
    · split
      · rename_i e
        intro y
        obtain ⟨p1, p2⟩ := ha.w1 y
        obtain ⟨p3, p4⟩ := hb.w1 (e ▸ y)
        omega
      · intro y; cases y
    · split
      · rename_i e
        intro y
        obtain ⟨p1, p2⟩ := ha.w2 y
        obtain ⟨p3, p4⟩ := hb.w2 (e ▸ y)
        omega
      · intro y; cases y
theorem p_common_area (ds : List D) (n : NS) (q : D → NS → Prop) (e : DY) (hl : ds.length = 2) (h : s_common_area A ds n q e) : t_common_area K A cs { nx := fun _ n' => q .non n', rt := q, ex := fun _ => e } (startD N_common_area ds) n := by
  obtain ⟨a, b, rfl, ha, hb, h⟩ := h
  have sN := @sharedN a b
  unfold shared at h sN
  unfold t_common_area
  simp only [dSeq, dNext, dIfS, dTest, dOp, dVar, dC, dRet, dRetN, dGet, dAnd, dOr, dNot, dAndV, dOrV, dNotV, dIf, dNil, dCons, dTup, dLst, dCB, dM0, dM1, dDrop, dAsg, dgName, dPar, dCal, dChain, dRaise, dRaise2, dFor, diSeq, items, diRange1, diRange2, dLc, dYes, dgTup, dgCons, dgNil, dSl, dPart, dNoPart, dNeg, dPenC, dPenA, dPenL, dPutA, dPutL, dFld, dgFld, dNew, dMet, dLstM, dFrz, dApp, dgIx, dAug, startD, List.map_cons, List.map_nil, List.length_cons, List.length_nil, List.replicate, Nat.reduceAdd, Nat.reduceSub, List.cons_append, List.nil_append, List.append_nil, List.set_cons_zero, List.set_cons_succ, List.getElem?_cons_zero, List.getElem?_cons_succ, gMax, gMin]
  refine ⟨by simp, adrD A (fst a), rfl, by simp, .int a.t.1, rfl, by simp, adrD A (fst b), rfl, by simp, .int b.t.1, rfl, ?_⟩
  refine ⟨by simp, adrD A (lst a), rfl, by simp, .int a.b.1, rfl, by simp, adrD A (lst b), rfl, by simp, .int b.b.1, rfl, ?_⟩
  unfold u_common_area_2
  simp only [dSeq, dNext, dIfS, dTest, dOp, dVar, dC, dRet, dRetN, dGet, dAnd, dOr, dNot, dAndV, dOrV, dNotV, dIf, dNil, dCons, dTup, dLst, dCB, dM0, dM1, dDrop, dAsg, dgName, dPar, dCal, dChain, dRaise, dRaise2, dFor, diSeq, items, diRange1, diRange2, dLc, dYes, dgTup, dgCons, dgNil, dSl, dPart, dNoPart, dNeg, dPenC, dPenA, dPenL, dPutA, dPutL, dFld, dgFld, dNew, dMet, dLstM, dFrz, dApp, dgIx, dAug, startD, List.map_cons, List.map_nil, List.length_cons, List.length_nil, List.replicate, Nat.reduceAdd, Nat.reduceSub, List.cons_append, List.nil_append, List.append_nil, List.set_cons_zero, List.set_cons_succ, List.getElem?_cons_zero, List.getElem?_cons_succ, gMax, gMin]
  refine ⟨by simp, adrD A (fst a), rfl, by simp, .int a.l.1, rfl, by simp, adrD A (fst b), rfl, by simp, .int b.l.1, rfl, ?_⟩
  refine ⟨by simp, adrD A (lst a), rfl, by simp, .int a.r.1, rfl, by simp, adrD A (lst b), rfl, by simp, .int b.r.1, rfl, ?_⟩
  unfold u_common_area_3
  simp only [dSeq, dNext, dIfS, dTest, dOp, dVar, dC, dRet, dRetN, dGet, dAnd, dOr, dNot, dAndV, dOrV, dNotV, dIf, dNil, dCons, dTup, dLst, dCB, dM0, dM1, dDrop, dAsg, dgName, dPar, dCal, dChain, dRaise, dRaise2, dFor, diSeq, items, diRange1, diRange2, dLc, dYes, dgTup, dgCons, dgNil, dSl, dPart, dNoPart, dNeg, dPenC, dPenA, dPenL, dPutA, dPutL, dFld, dgFld, dNew, dMet, dLstM, dFrz, dApp, dgIx, dAug, startD, List.map_cons, List.map_nil, List.length_cons, List.length_nil, List.replicate, Nat.reduceAdd, Nat.reduceSub, List.cons_append, List.nil_append, List.append_nil, List.set_cons_zero, List.set_cons_succ, List.getElem?_cons_zero, List.getElem?_cons_succ, gGt, gOrd]
  have e1 : (if b.t.1 > a.t.1 then b.t.1 else a.t.1) = imax a.t.1 b.t.1 := rfl
  have e2 : (if b.b.1 < a.b.1 then b.b.1 else a.b.1) = imin a.b.1 b.b.1 := rfl
  have e3 : (if b.l.1 > a.l.1 then b.l.1 else a.l.1) = imax a.l.1 b.l.1 := rfl
  have e4 : (if b.r.1 < a.r.1 then b.r.1 else a.r.1) = imin a.r.1 b.r.1 := rfl
  rw [e1, e2, e3, e4]
  by_cases c1 : imin a.b.1 b.b.1 < imax a.t.1 b.t.1
  · rw [decide_eq_true c1]
    rw [if_pos (.inl c1)] at h
    exact h
  rw [decide_eq_false c1]
  by_cases c2 : imin a.r.1 b.r.1 < imax a.l.1 b.l.1
  · simp only [decide_eq_true c2]
    rw [if_pos (.inr (.inl c2))] at h
    exact h
  simp only [decide_eq_false c2]
  refine ⟨by simp, shD a.sh, rfl, by simp, shD b.sh, rfl, trivial, a.sh, b.sh, rfl, shA_of ha.s, shA_of hb.s, ?_⟩
  cases c3 : meetSh a.sh b.sh with
  | false =>
    rw [if_pos (.inr (.inr c3))] at h
    exact h
  | true =>
    have c4 : ¬ (imin a.b.1 b.b.1 < imax a.t.1 b.t.1 ∨ imin a.r.1 b.r.1 < imax a.l.1 b.l.1 ∨ meetSh a.sh b.sh = false) := fun z => by
      rcases z with z | z | z
      · exact c1 z
      · exact c2 z
      · rw [c3] at z; cases z
    rw [if_neg c4] at h sN
    obtain ⟨N, _⟩ := sN ha hb rfl
    show u_common_area_4 K A cs _ _ n
    unfold u_common_area_4
    simp only [dSeq, dNext, dIfS, dTest, dOp, dVar, dC, dRet, dRetN, dGet, dAnd, dOr, dNot, dAndV, dOrV, dNotV, dIf, dNil, dCons, dTup, dLst, dCB, dM0, dM1, dDrop, dAsg, dgName, dPar, dCal, dChain, dRaise, dRaise2, dFor, diSeq, items, diRange1, diRange2, dLc, dYes, dgTup, dgCons, dgNil, dSl, dPart, dNoPart, dNeg, dPenC, dPenA, dPenL, dPutA, dPutL, dFld, dgFld, dNew, dMet, dLstM, dFrz, dApp, dgIx, dAug, startD, List.map_cons, List.map_nil, List.length_cons, List.length_nil, List.replicate, Nat.reduceAdd, Nat.reduceSub, List.cons_append, List.nil_append, List.append_nil, List.set_cons_zero, List.set_cons_succ, List.getElem?_cons_zero, List.getElem?_cons_succ, gNotN]
    refine ⟨by simp, shD a.sh, rfl, ?_⟩
    rw [isN_sh]
    have go : u_common_area_5 K A cs { nx := fun _ n' => q .non n', rt := q, ex := fun _ => e } [some (areaD A a), some (areaD A b), some (.int (imax a.t.1 b.t.1)), some (.int (imin a.b.1 b.b.1)), some (.int (imax a.l.1 b.l.1)), some (.int (imin a.r.1 b.r.1)), some (shD (if a.sh = none then b.sh else a.sh))] n := by
      unfold u_common_area_5
      simp only [dSeq, dNext, dIfS, dTest, dOp, dVar, dC, dRet, dRetN, dGet, dAnd, dOr, dNot, dAndV, dOrV, dNotV, dIf, dNil, dCons, dTup, dLst, dCB, dM0, dM1, dDrop, dAsg, dgName, dPar, dCal, dChain, dRaise, dRaise2, dFor, diSeq, items, diRange1, diRange2, dLc, dYes, dgTup, dgCons, dgNil, dSl, dPart, dNoPart, dNeg, dPenC, dPenA, dPenL, dPutA, dPutL, dFld, dgFld, dNew, dMet, dLstM, dFrz, dApp, dgIx, dAug, startD, List.map_cons, List.map_nil, List.length_cons, List.length_nil, List.replicate, Nat.reduceAdd, Nat.reduceSub, List.cons_append, List.nil_append, List.append_nil, List.set_cons_zero, List.set_cons_succ, List.getElem?_cons_zero, List.getElem?_cons_succ, gEq]
      refine ⟨by simp, whD a.w, rfl, by simp, whD b.w, rfl, wh_cmp ha.w hb.w ?_⟩
      by_cases c5 : a.w = b.w
      · rw [if_pos c5] at h N
        rw [decide_eq_true c5]
        exact ⟨by simp, whD a.w, rfl, trivial, _, _, _, _, _, _, rfl, N, h⟩
      · rw [if_neg c5] at h N
        rw [decide_eq_false c5]
        exact ⟨trivial, _, _, _, _, _, 0, rfl, N, h⟩
    cases c6 : a.sh with
    | none =>
      rw [c6] at go
      exact ⟨trivial, by simp, shD b.sh, rfl, go⟩
    | some l =>
      rw [c6] at go
      exact ⟨trivial, by simp, shD a.sh, rfl, by rw [c6]; exact go⟩
end
end K17

set_option Elab.async false
set_option linter.all false
set_option maxRecDepth 100000
set_option maxHeartbeats 8000000
set_option autoImplicit false
/-! plain laws of areas. -/
namespace K17
open PySem PySem.Spec PyProof.Rows L2 DL
theorem inOrd_fst_le (x y : IB) : (inOrd x y).1.1 ≤ (inOrd x y).2.1 := by
  unfold inOrd
  split
  · rename_i h
    unfold ahead at h
    have z := SrtO.lexB_iff.mp h
    simp only [kOf] at z
    show y.1 ≤ x.1
    omega
  · rename_i h
    unfold ahead at h
    have z := SrtO.lexB_no.mp (Bool.eq_false_iff.mpr h)
    simp only [kOf] at z
    show x.1 ≤ y.1
    omega
theorem nrm_N {x y u v : IB} {w : Nat} {sh : Option (List Nat)} (h : TOk x y u v w sh) : ArN (nrm x y u v w sh) := by
  refine ⟨nrm_ok h, ?_, ?_, fun e => ?_, fun e => ?_⟩
  · show (nRows x y w).1.1 ≤ (nRows x y w).2.1
    unfold nRows
    split
    · decide
    · exact inOrd_fst_le x y
  · show (nCols u v w).1.1 ≤ (nCols u v w).2.1
    unfold nCols
    split
    · decide
    · exact inOrd_fst_le u v
  · have e : w = 1 := e
    subst e
    exact ⟨rfl, rfl⟩
  · have e : w = 2 := e
    subst e
    exact ⟨rfl, rfl⟩
/-! rows of cells -/
def grid {α : Type} (h w : Nat) (f : Nat → Nat → α) : List α := (List.range h).flatMap fun i => (List.range w).map fun j => f i j
theorem grid_succ {α : Type} (h w : Nat) (f : Nat → Nat → α) : grid (h + 1) w f = grid h w f ++ (List.range w).map fun j => f h j := by
  unfold grid
  rw [List.range_succ, List.flatMap_append]
  simp
theorem grid_len {α : Type} (w : Nat) (f : Nat → Nat → α) : ∀ h, (grid h w f).length = h * w
  | 0 => by simp [grid]
  | h + 1 => by rw [grid_succ, List.length_append, grid_len w f h, List.length_map, List.length_range, Nat.succ_mul]
theorem grid_at {α : Type} (w : Nat) (f : Nat → Nat → α) {k : Nat} : ∀ h, k < h * w → (grid h w f)[k]? = some (f (k / w) (k % w))
  | 0, h => by simp at h
  | h + 1, hk => by
    rw [grid_succ]
    rw [Nat.succ_mul] at hk
    by_cases c : k < h * w
    · rw [List.getElem?_append_left (by rw [grid_len]; exact c)]
      exact grid_at w f h c
    · rw [List.getElem?_append_right (by rw [grid_len]; omega), grid_len]
      have hw : 0 < w := by omega
      have e1 : k / w = h := by
        rw [Nat.div_eq_iff hw]
        rw [Nat.mul_comm] at c
        constructor
        · rw [Nat.mul_comm]; omega
        · rw [Nat.mul_comm] at hk; rw [Nat.mul_comm]; omega
      have e2 : k % w = k - h * w := by
        have := Nat.div_add_mod k w
        rw [e1, Nat.mul_comm] at this
        omega
      rw [e1, e2, List.getElem?_map, List.getElem?_range (by omega)]
      rfl
theorem cellsOf_eq (a : Ar) : cellsOf a = grid (hgt a).toNat (wdt a).toNat fun i j => ⟨a.t.1 + (i : Nat), a.l.1 + (j : Nat), false, false, a.sh⟩ := rfl
theorem cells_len (a : Ar) (h : ArN a) : ((cellsOf a).length : Int) = hgt a * wdt a := by
  have h1 : 0 ≤ hgt a := by have := h.tb; unfold hgt; omega
  have h2 : 0 ≤ wdt a := by have := h.lr; unfold wdt; omega
  rw [cellsOf_eq, grid_len, Int.natCast_mul, Int.toNat_of_nonneg h1, Int.toNat_of_nonneg h2]
theorem cells_at (a : Ar) (h : ArN a) {k : Nat} (hk : (k : Int) < hgt a * wdt a) : (cellsOf a)[k]? = some ⟨a.t.1 + (k : Int) / wdt a, a.l.1 + (k : Int) % wdt a, false, false, a.sh⟩ := by
  have h1 : 0 ≤ hgt a := by have := h.tb; unfold hgt; omega
  have h2 : 0 ≤ wdt a := by have := h.lr; unfold wdt; omega
  rw [cellsOf_eq, grid_at _ _ _ (by rw [← Int.ofNat_lt, Int.natCast_mul, Int.toNat_of_nonneg h1, Int.toNat_of_nonneg h2]; exact hk)]
  simp only [Int.natCast_ediv, Int.natCast_emod, Int.toNat_of_nonneg h2]
end K17

set_option Elab.async false
set_option linter.all false
set_option maxRecDepth 100000
set_option maxHeartbeats 8000000
set_option autoImplicit false
/-! readings as equations. -/
namespace K17
open PySem PySem.Spec PyProof.Rows L2 DL
section
variable {n : NS} {q : D → NS → Prop} {x y z u v : D} {xs : List D}
theorem ex_eq {α : Type} {a : α} {o : Option α} {p : α → Prop} (h : o = some a) : (∃ d, o = some d ∧ p d) = p a := propext ⟨fun ⟨d, h1, h2⟩ => by rw [h] at h1; cases h1; exact h2, fun k => ⟨a, h, k⟩⟩
theorem gIx0 : gIx (.tup (x :: xs)) (.int 0) n q = q x n := ex_eq (at0 _ _)
theorem gIx1 : gIx (.tup (x :: y :: xs)) (.int 1) n q = q y n := ex_eq (at1 _ _ _)
theorem gIx2 : gIx (.tup (x :: y :: z :: xs)) (.int 2) n q = q z n := ex_eq (at2 _ _ _ _)
theorem gIx3 : gIx (.tup (x :: y :: z :: u :: xs)) (.int 3) n q = q u n := ex_eq (at3 _ _ _ _ _)
theorem gIx4 : gIx (.tup (x :: y :: z :: u :: v :: xs)) (.int 4) n q = q v n := ex_eq (at4 _ _ _ _ _ _)
theorem lIx0 : gIx (.lst (x :: xs)) (.int 0) n q = q x n := ex_eq (at0 _ _)
theorem lIx1 : gIx (.lst (x :: y :: xs)) (.int 1) n q = q y n := ex_eq (at1 _ _ _)
/-- a field, read -/
def gFld (Cs : List Addr) (f : Str) (x : D) (n1 : NS) (q : D → NS → Prop) : Prop := match x with
  | .ins C ns xs => C ∈ Cs ∧ ∃ d, (ns.zip xs).lookup f = some d ∧ q d n1
  | .ref a => ∃ C dx ns xs d, n1.mu a = some (.ins C dx ns xs) ∧ C ∈ Cs ∧ (ns.zip xs).lookup f = some d ∧ q d n1
  | _ => False
theorem dFld_eq {Cs : List Addr} {f : Str} {fo : DTE} {δ : DEnv} {e : DX} : dFld Cs f fo δ n q e = fo δ n (fun x n1 => gFld Cs f x n1 q) e := rfl
theorem gFld_ins {Cs : List Addr} {f : Str} {C : Addr} {ns : List Str} {ys : List D} (h : C ∈ Cs) {d : D} (e : (ns.zip ys).lookup f = some d) : gFld Cs f (.ins C ns ys) n q = q d n := by
  show (C ∈ Cs ∧ ∃ d, _) = _
  rw [ex_eq e]
  exact propext ⟨fun z => z.2, fun z => ⟨h, z⟩⟩
end
section
variable {A : Ad} {n : NS} {q : D → NS → Prop} {a : Ar} {p : Pl}
theorem f_first : gFld [A.Area] "first" (areaD A a) n q = q (adrD A (fst a)) n := gFld_ins (by simp) rfl
theorem f_last : gFld [A.Area] "last" (areaD A a) n q = q (adrD A (lst a)) n := gFld_ins (by simp) rfl
theorem f_whole : gFld [A.Area] "whole" (areaD A a) n q = q (whD a.w) n := gFld_ins (by simp) rfl
theorem f_height : gFld [A.Area] "height" (areaD A a) n q = q (.int (hgt a)) n := gFld_ins (by simp) rfl
theorem f_width : gFld [A.Area] "width" (areaD A a) n q = q (.int (wdt a)) n := gFld_ins (by simp) rfl
theorem f_shR : gFld [A.Address, A.Area] "sheet" (areaD A a) n q = q (shD a.sh) n := gFld_ins (by simp) rfl
theorem f_shA : gFld [A.Address, A.Area] "sheet" (adrD A p) n q = q (shD p.sh) n := gFld_ins (by simp) rfl
theorem f_row : gFld [A.Address] "row" (adrD A p) n q = q (.int p.r) n := gFld_ins (by simp) rfl
theorem f_column : gFld [A.Address] "column" (adrD A p) n q = q (.int p.c) n := gFld_ins (by simp) rfl
theorem fst_r : (fst a).r = a.t.1 := rfl
theorem fst_c : (fst a).c = a.l.1 := rfl
theorem lst_r : (lst a).r = a.b.1 := rfl
theorem lst_c : (lst a).c = a.r.1 := rfl
end
end K17

set_option Elab.async false
set_option linter.all false
set_option maxRecDepth 100000
set_option maxHeartbeats 8000000
set_option autoImplicit false
namespace K17
open PySem PySem.Spec PyProof.Rows L2 DL
section
variable {P : Program} {K : PySem.W.Frag} {mg : Str → Option Value} {A : Ad} {cs : List Int}
theorem p_Area_common (ds : List D) (n : NS) (q : D → NS → Prop) (e : DY) (hl : ds.length = 2) (h : s_Area_common A ds n q e) : t_Area_common K A cs { nx := fun _ n' => q .non n', rt := q, ex := fun _ => e } (startD N_Area_common ds) n := by
  obtain ⟨a, x, rfl, ha, h⟩ := h
  unfold t_Area_common
  simp only [dSeq, dNext, dIfS, dTest, dOp, dVar, dC, dRet, dRetN, dGet, dAnd, dOr, dNot, dAndV, dOrV, dNotV, dIf, dNil, dCons, dTup, dLst, dCB, dM0, dM1, dDrop, dAsg, dgName, dPar, dCal, dChain, dRaise, dRaise2, dFor, diSeq, items, diRange1, diRange2, dLc, dYes, dgTup, dgCons, dgNil, dSl, dPart, dNoPart, dNeg, dPenC, dPenA, dPenL, dPutA, dPutL, dFld, dgFld, dNew, dMet, dLstM, dFrz, dApp, dgIx, dAug, startD, List.map_cons, List.map_nil, List.length_cons, List.length_nil, List.replicate, Nat.reduceAdd, Nat.reduceSub, List.cons_append, List.nil_append, List.append_nil, List.set_cons_zero, List.set_cons_succ, List.getElem?_cons_zero, List.getElem?_cons_succ]
  rcases h with ⟨b, rfl, hb, h⟩ | ⟨hk, h⟩
  · exact ⟨trivial, _, rfl, .inl ⟨b, rfl, trivial, a, b, rfl, ha, hb, h⟩⟩
  · exact ⟨trivial, _, rfl, .inr ⟨hk, h⟩⟩
theorem p_part_of (ds : List D) (n : NS) (q : D → NS → Prop) (e : DY) (hl : ds.length = 5) (h : s_part_of A ds n q e) : t_part_of K A cs { nx := fun _ n' => q .non n', rt := q, ex := fun _ => e } (startD N_part_of ds) n := by
  obtain ⟨a, t, l, b, r, rfl, ha, hin, h⟩ := h
  unfold partOf at h
  unfold t_part_of
  simp only [dSeq, dNext, dIfS, dTest, dOp, dVar, dC, dRet, dRetN, dGet, dAnd, dOr, dNot, dAndV, dOrV, dNotV, dIf, dNil, dCons, dTup, dLst, dCB, dM0, dM1, dDrop, dAsg, dgName, dPar, dCal, dChain, dRaise, dRaise2, dFor, diSeq, items, diRange1, diRange2, dLc, dYes, dgTup, dgCons, dgNil, dSl, dPart, dNoPart, dNeg, dPenC, dPenA, dPenL, dPutA, dPutL, dgFld, dNew, dMet, dLstM, dFrz, dApp, dgIx, dAug, startD, List.map_cons, List.map_nil, List.length_cons, List.length_nil, List.replicate, Nat.reduceAdd, Nat.reduceSub, List.cons_append, List.nil_append, List.append_nil, List.set_cons_zero, List.set_cons_succ, List.getElem?_cons_zero, List.getElem?_cons_succ, dFld_eq, gIx0, gIx1, gIx2, gIx3, gIx4, lIx0, lIx1, true_and, f_first, f_last, f_whole, f_height, f_width, f_shR, f_shA, f_row, f_column, fst_r, fst_c, lst_r, lst_c, gAdd, DL.gSub, gI0, gGt, gLe, gLt, gOrd, normT, areaT, prD]
  by_cases c1 : b < t
  · simp only [decide_eq_true c1]
    rw [if_pos (.inl c1)] at h
    exact ⟨by simp, h⟩
  simp only [decide_eq_false c1]
  by_cases c2 : r < l
  · simp only [decide_eq_true c2]
    rw [if_pos (.inr c2)] at h
    exact ⟨by simp, h⟩
  simp only [decide_eq_false c2]
  rw [if_neg (fun z => z.elim c1 c2)] at h
  obtain ⟨i1, i2, i3, i4⟩ := hin (by omega) (by omega)
  have t1 := ha.t.1; have t2 := ha.t.2; have b1 := ha.b.1; have b2 := ha.b.2; have l1 := ha.l.1; have l2 := ha.l.2; have r1 := ha.r.1; have r2 := ha.r.2
  have N : ∀ w, w ≤ 2 → (w = 1 → b - t + 1 = 1000000) → (w = 2 → r - l + 1 = 18278) → ArN (bareAr t l b r w a.sh) := fun w hw f1 f2 => by
    refine ⟨⟨⟨?_, ?_⟩, ⟨?_, ?_⟩, ⟨?_, ?_⟩, ⟨?_, ?_⟩, hw, ha.s⟩, ?_, ?_, ?_, ?_⟩ <;> simp only [bareAr]
    · omega
    · omega
    · omega
    · omega
    · omega
    · omega
    · omega
    · omega
    · omega
    · omega
    · intro z
      have := f1 z
      omega
    · intro z
      have := f2 z
      omega
  rcases w3 ha.w with e0 | e0 | e0
  · rw [e0] at h ⊢
    simp only [whD, gEq, eqD, scEq]
    exact ⟨_, _, _, _, _, 0, rfl, N 0 (by decide) (fun z => by cases z) (fun z => by cases z), by simp, h⟩
  · rw [e0] at h ⊢
    have x1 : COLS = [99, 111, 108, 117, 109, 110, 115] := rfl
    have x2 : ¬ COLS = [114, 111, 119, 115] := by decide
    simp only [whD, gEq, eqD, scEq, decide_eq_true x1, decide_eq_false x2]
    by_cases c3 : b - t + 1 = 1000000
    · simp only [decide_eq_true c3]
      rw [if_pos ⟨rfl, c3⟩] at h
      exact ⟨_, _, _, _, _, 1, rfl, N 1 (by decide) (fun _ => c3) (fun z => by cases z), by simp, h⟩
    · simp only [decide_eq_false c3]
      rw [if_neg (fun z => c3 z.2), if_neg (fun z => by cases z.1)] at h
      exact ⟨_, _, _, _, _, 0, rfl, N 0 (by decide) (fun z => by cases z) (fun z => by cases z), by simp, h⟩
  · rw [e0] at h ⊢
    have x1 : ¬ ROWS = [99, 111, 108, 117, 109, 110, 115] := by decide
    have x2 : ROWS = [114, 111, 119, 115] := rfl
    simp only [whD, gEq, eqD, scEq, decide_eq_false x1, decide_eq_true x2]
    rw [if_neg (fun z => by cases z.1)] at h
    by_cases c3 : r - l + 1 = 18278
    · simp only [decide_eq_true c3]
      rw [if_pos ⟨rfl, c3⟩] at h
      exact ⟨_, _, _, _, _, 2, rfl, N 2 (by decide) (fun z => by cases z) (fun _ => c3), by simp, h⟩
    · simp only [decide_eq_false c3]
      rw [if_neg (fun z => c3 z.2)] at h
      exact ⟨_, _, _, _, _, 0, rfl, N 0 (by decide) (fun z => by cases z) (fun z => by cases z), by simp, h⟩
end
end K17

set_option Elab.async false
set_option linter.all false
set_option maxRecDepth 100000
set_option maxHeartbeats 8000000
set_option autoImplicit false
namespace K17
open PySem PySem.Spec PyProof.Rows L2 DL
theorem partLen (a : Ar) (t l b r : Int) : (partOf a t l b r).length ≤ 1 := by
  unfold partOf
  split <;> simp
section
variable {P : Program} {K : PySem.W.Frag} {mg : Str → Option Value} {A : Ad} {cs : List Int}
theorem p_parts_without (ds : List D) (n : NS) (q : D → NS → Prop) (e : DY) (hl : ds.length = 2) (h : s_parts_without A ds n q e) : t_parts_without K A cs { nx := fun _ n' => q .non n', rt := q, ex := fun _ => e } (startD N_parts_without ds) n := by
  obtain ⟨a, c, rfl, ha, hin, h⟩ := h
  unfold t_parts_without
  simp only [dSeq, dNext, dIfS, dTest, dOp, dVar, dC, dRet, dRetN, dGet, dAnd, dOr, dNot, dAndV, dOrV, dNotV, dIf, dNil, dCons, dTup, dLst, dCB, dM0, dM1, dDrop, dAsg, dgName, dPar, dCal, dChain, dRaise, dRaise2, dFor, diSeq, items, diRange1, diRange2, dLc, dYes, dgTup, dgCons, dgNil, dSl, dPart, dNoPart, dNeg, dPenC, dPenA, dPenL, dPutA, dPutL, dgFld, dNew, dMet, dLstM, dFrz, dApp, dgIx, dAug, startD, List.map_cons, List.map_nil, List.length_cons, List.length_nil, List.replicate, Nat.reduceAdd, Nat.reduceSub, List.cons_append, List.nil_append, List.append_nil, List.set_cons_zero, List.set_cons_succ, List.getElem?_cons_zero, List.getElem?_cons_succ, dFld_eq, gIx0, gIx1, gIx2, gIx3, gIx4, lIx0, lIx1, true_and, Nat.reduceLeDiff, f_first, f_last, f_whole, f_height, f_width, f_shR, f_shA, f_row, f_column, fst_r, fst_c, lst_r, lst_c, gAdd, DL.gSub, gI0, gGt, gLe, gLt, gOrd, normT, areaT, prD]
  unfold u_parts_without_2
  simp only [dSeq, dNext, dIfS, dTest, dOp, dVar, dC, dRet, dRetN, dGet, dAnd, dOr, dNot, dAndV, dOrV, dNotV, dIf, dNil, dCons, dTup, dLst, dCB, dM0, dM1, dDrop, dAsg, dgName, dPar, dCal, dChain, dRaise, dRaise2, dFor, diSeq, items, diRange1, diRange2, dLc, dYes, dgTup, dgCons, dgNil, dSl, dPart, dNoPart, dNeg, dPenC, dPenA, dPenL, dPutA, dPutL, dgFld, dNew, dMet, dLstM, dFrz, dApp, dgIx, dAug, startD, List.map_cons, List.map_nil, List.length_cons, List.length_nil, List.replicate, Nat.reduceAdd, Nat.reduceSub, List.cons_append, List.nil_append, List.append_nil, List.set_cons_zero, List.set_cons_succ, List.getElem?_cons_zero, List.getElem?_cons_succ, dFld_eq, gIx0, gIx1, gIx2, gIx3, gIx4, lIx0, lIx1, true_and, Nat.reduceLeDiff, f_first, f_last, f_whole, f_height, f_width, f_shR, f_shA, f_row, f_column, fst_r, fst_c, lst_r, lst_c, gAdd, DL.gSub, gI0, gGt, gLe, gLt, gOrd, normT, areaT, prD, gIsN]
  cases c with
  | none =>
    unfold partsOf at h
    exact ⟨a, _, _, _, _, rfl, ha, fun _ _ => ⟨Int.le_refl _, Int.le_refl _, Int.le_refl _, Int.le_refl _⟩, h⟩
  | some c =>
    have I := hin c rfl
    have i1 := I.t; have i2 := I.b; have i3 := I.l; have i4 := I.r; have i5 := I.tb; have i6 := I.lr
    unfold partsOf at h
    simp only [areaO]
    have nn : isNon (areaD A c) = false := rfl
    rw [nn]
    simp only
    unfold u_parts_without_3
    simp only [dSeq, dNext, dIfS, dTest, dOp, dVar, dC, dRet, dRetN, dGet, dAnd, dOr, dNot, dAndV, dOrV, dNotV, dIf, dNil, dCons, dTup, dLst, dCB, dM0, dM1, dDrop, dAsg, dgName, dPar, dCal, dChain, dRaise, dRaise2, dFor, diSeq, items, diRange1, diRange2, dLc, dYes, dgTup, dgCons, dgNil, dSl, dPart, dNoPart, dNeg, dPenC, dPenA, dPenL, dPutA, dPutL, dgFld, dNew, dMet, dLstM, dFrz, dApp, dgIx, dAug, startD, List.map_cons, List.map_nil, List.length_cons, List.length_nil, List.replicate, Nat.reduceAdd, Nat.reduceSub, List.cons_append, List.nil_append, List.append_nil, List.set_cons_zero, List.set_cons_succ, List.getElem?_cons_zero, List.getElem?_cons_succ, dFld_eq, gIx0, gIx1, gIx2, gIx3, gIx4, lIx0, lIx1, true_and, Nat.reduceLeDiff, f_first, f_last, f_whole, f_height, f_width, f_shR, f_shA, f_row, f_column, fst_r, fst_c, lst_r, lst_c, gAdd, DL.gSub, gI0, gGt, gLe, gLt, gOrd, normT, areaT, prD]
    refine ⟨a, _, _, _, _, rfl, ha, fun _ _ => ⟨by omega, by omega, by omega, by omega⟩, ?_⟩
    unfold u_parts_without_4
    simp only [dSeq, dNext, dIfS, dTest, dOp, dVar, dC, dRet, dRetN, dGet, dAnd, dOr, dNot, dAndV, dOrV, dNotV, dIf, dNil, dCons, dTup, dLst, dCB, dM0, dM1, dDrop, dAsg, dgName, dPar, dCal, dChain, dRaise, dRaise2, dFor, diSeq, items, diRange1, diRange2, dLc, dYes, dgTup, dgCons, dgNil, dSl, dPart, dNoPart, dNeg, dPenC, dPenA, dPenL, dPutA, dPutL, dgFld, dNew, dMet, dLstM, dFrz, dApp, dgIx, dAug, startD, List.map_cons, List.map_nil, List.length_cons, List.length_nil, List.replicate, Nat.reduceAdd, Nat.reduceSub, List.cons_append, List.nil_append, List.append_nil, List.set_cons_zero, List.set_cons_succ, List.getElem?_cons_zero, List.getElem?_cons_succ, dFld_eq, gIx0, gIx1, gIx2, gIx3, gIx4, lIx0, lIx1, true_and, Nat.reduceLeDiff, f_first, f_last, f_whole, f_height, f_width, f_shR, f_shA, f_row, f_column, fst_r, fst_c, lst_r, lst_c, gAdd, DL.gSub, gI0, gGt, gLe, gLt, gOrd, normT, areaT, prD]
    refine ⟨a, _, _, _, _, rfl, ha, fun _ _ => ⟨by omega, by omega, by omega, by omega⟩, ?_⟩
    unfold u_parts_without_5
    simp only [dSeq, dNext, dIfS, dTest, dOp, dVar, dC, dRet, dRetN, dGet, dAnd, dOr, dNot, dAndV, dOrV, dNotV, dIf, dNil, dCons, dTup, dLst, dCB, dM0, dM1, dDrop, dAsg, dgName, dPar, dCal, dChain, dRaise, dRaise2, dFor, diSeq, items, diRange1, diRange2, dLc, dYes, dgTup, dgCons, dgNil, dSl, dPart, dNoPart, dNeg, dPenC, dPenA, dPenL, dPutA, dPutL, dgFld, dNew, dMet, dLstM, dFrz, dApp, dgIx, dAug, startD, List.map_cons, List.map_nil, List.length_cons, List.length_nil, List.replicate, Nat.reduceAdd, Nat.reduceSub, List.cons_append, List.nil_append, List.append_nil, List.set_cons_zero, List.set_cons_succ, List.getElem?_cons_zero, List.getElem?_cons_succ, dFld_eq, gIx0, gIx1, gIx2, gIx3, gIx4, lIx0, lIx1, true_and, Nat.reduceLeDiff, f_first, f_last, f_whole, f_height, f_width, f_shR, f_shA, f_row, f_column, fst_r, fst_c, lst_r, lst_c, gAdd, DL.gSub, gI0, gGt, gLe, gLt, gOrd, normT, areaT, prD]
    refine ⟨a, _, _, _, _, rfl, ha, fun _ _ => ⟨by omega, by omega, by omega, by omega⟩, ?_⟩
    unfold u_parts_without_6
    simp only [dSeq, dNext, dIfS, dTest, dOp, dVar, dC, dRet, dRetN, dGet, dAnd, dOr, dNot, dAndV, dOrV, dNotV, dIf, dNil, dCons, dTup, dLst, dCB, dM0, dM1, dDrop, dAsg, dgName, dPar, dCal, dChain, dRaise, dRaise2, dFor, diSeq, items, diRange1, diRange2, dLc, dYes, dgTup, dgCons, dgNil, dSl, dPart, dNoPart, dNeg, dPenC, dPenA, dPenL, dPutA, dPutL, dgFld, dNew, dMet, dLstM, dFrz, dApp, dgIx, dAug, startD, List.map_cons, List.map_nil, List.length_cons, List.length_nil, List.replicate, Nat.reduceAdd, Nat.reduceSub, List.cons_append, List.nil_append, List.append_nil, List.set_cons_zero, List.set_cons_succ, List.getElem?_cons_zero, List.getElem?_cons_succ, dFld_eq, gIx0, gIx1, gIx2, gIx3, gIx4, lIx0, lIx1, true_and, Nat.reduceLeDiff, f_first, f_last, f_whole, f_height, f_width, f_shR, f_shA, f_row, f_column, fst_r, fst_c, lst_r, lst_c, gAdd, DL.gSub, gI0, gGt, gLe, gLt, gOrd, normT, areaT, prD]
    refine ⟨a, _, _, _, _, rfl, ha, fun _ _ => ⟨by omega, by omega, by omega, by omega⟩, ?_⟩
    unfold u_parts_without_7
    simp only [dSeq, dNext, dIfS, dTest, dOp, dVar, dC, dRet, dRetN, dGet, dAnd, dOr, dNot, dAndV, dOrV, dNotV, dIf, dNil, dCons, dTup, dLst, dCB, dM0, dM1, dDrop, dAsg, dgName, dPar, dCal, dChain, dRaise, dRaise2, dFor, diSeq, items, diRange1, diRange2, dLc, dYes, dgTup, dgCons, dgNil, dSl, dPart, dNoPart, dNeg, dPenC, dPenA, dPenL, dPutA, dPutL, dgFld, dNew, dMet, dLstM, dFrz, dApp, dgIx, dAug, startD, List.map_cons, List.map_nil, List.length_cons, List.length_nil, List.replicate, Nat.reduceAdd, Nat.reduceSub, List.cons_append, List.nil_append, List.append_nil, List.set_cons_zero, List.set_cons_succ, List.getElem?_cons_zero, List.getElem?_cons_succ, dFld_eq, gIx0, gIx1, gIx2, gIx3, gIx4, lIx0, lIx1, true_and, Nat.reduceLeDiff, f_first, f_last, f_whole, f_height, f_width, f_shR, f_shA, f_row, f_column, fst_r, fst_c, lst_r, lst_c, gAdd, DL.gSub, gI0, gGt, gLe, gLt, gOrd, normT, areaT, prD]
    have L1 := partLen a a.t.1 a.l.1 (c.t.1 - 1) a.r.1
    have L2 := partLen a (c.b.1 + 1) a.l.1 a.b.1 a.r.1
    have L3 := partLen a c.t.1 a.l.1 c.b.1 (c.l.1 - 1)
    have L4 := partLen a c.t.1 (c.r.1 + 1) c.b.1 a.r.1
    refine ⟨by rw [List.length_map, List.length_map]; omega, by rw [List.length_append, List.length_map, List.length_map, List.length_map]; omega, by rw [List.length_append, List.length_append, List.length_map, List.length_map, List.length_map, List.length_map]; omega, ?_⟩
    simp only [List.map_append] at h
    exact h
theorem p_Area_without (T : Txt P K mg A) (ds : List D) (n : NS) (q : D → NS → Prop) (e : DY) (hl : ds.length = 2) (h : s_Area_without A ds n q e) : t_Area_without K A cs { nx := fun _ n' => q .non n', rt := q, ex := fun _ => e } (startD N_Area_without ds) n := by
  obtain ⟨a, b, rfl, ha, hb, h⟩ := h
  unfold t_Area_without
  simp only [dSeq, dNext, dIfS, dTest, dOp, dVar, dC, dRet, dRetN, dGet, dAnd, dOr, dNot, dAndV, dOrV, dNotV, dIf, dNil, dCons, dTup, dLst, dCB, dM0, dM1, dDrop, dAsg, dgName, dPar, dCal, dChain, dRaise, dRaise2, dFor, diSeq, items, diRange1, diRange2, dLc, dYes, dgTup, dgCons, dgNil, dSl, dPart, dNoPart, dNeg, dPenC, dPenA, dPenL, dPutA, dPutL, dFld, dgFld, dNew, dMet, dLstM, dFrz, dApp, dgIx, dAug, startD, List.map_cons, List.map_nil, List.length_cons, List.length_nil, List.replicate, Nat.reduceAdd, Nat.reduceSub, List.cons_append, List.nil_append, List.append_nil, List.set_cons_zero, List.set_cons_succ, List.getElem?_cons_zero, List.getElem?_cons_succ]
  refine ⟨trivial, _, rfl, .inl ⟨b, rfl, trivial, a, b, rfl, ha, hb, trivial, a, shared a b, rfl, ha, fun x z => (sharedN ha hb z).2, ?_⟩⟩
  simp only [gTuple]
  exact h
theorem p_Area_has (ds : List D) (n : NS) (q : D → NS → Prop) (e : DY) (hl : ds.length = 2) (h : s_Area_has A ds n q e) : t_Area_has K A cs { nx := fun _ n' => q .non n', rt := q, ex := fun _ => e } (startD N_Area_has ds) n := by
  obtain ⟨a, p, rfl, ha, hp, h⟩ := h
  unfold hasB at h
  unfold t_Area_has
  simp only [dSeq, dNext, dIfS, dTest, dOp, dVar, dC, dRet, dRetN, dGet, dAnd, dOr, dNot, dAndV, dOrV, dNotV, dIf, dNil, dCons, dTup, dLst, dCB, dM0, dM1, dDrop, dAsg, dgName, dPar, dCal, dChain, dRaise, dRaise2, dFor, diSeq, items, diRange1, diRange2, dLc, dYes, dgTup, dgCons, dgNil, dSl, dPart, dNoPart, dNeg, dPenC, dPenA, dPenL, dPutA, dPutL, dgFld, dNew, dMet, dLstM, dFrz, dApp, dgIx, dAug, startD, List.map_cons, List.map_nil, List.length_cons, List.length_nil, List.replicate, Nat.reduceAdd, Nat.reduceSub, List.cons_append, List.nil_append, List.append_nil, List.set_cons_zero, List.set_cons_succ, List.getElem?_cons_zero, List.getElem?_cons_succ, dFld_eq, gIx0, gIx1, gIx2, gIx3, gIx4, lIx0, lIx1, true_and, Nat.reduceLeDiff, f_first, f_last, f_whole, f_height, f_width, f_shR, f_shA, f_row, f_column, fst_r, fst_c, lst_r, lst_c, gAdd, DL.gSub, gI0, gGt, gLe, gLt, gOrd, normT, areaT, prD]
  refine ⟨_, rfl, .inl ⟨p, rfl, a.sh, p.sh, rfl, shA_of ha.s, shA_of hp.s, ?_⟩⟩
  cases hm : meetSh a.sh p.sh with
  | false =>
    rw [hm] at h
    exact h
  | true =>
    rw [hm] at h
    simp only [Bool.not_true]
    by_cases g1 : a.t.1 ≤ p.r <;> by_cases g2 : p.r ≤ a.b.1 <;> by_cases g3 : a.l.1 ≤ p.c <;> by_cases g4 : p.c ≤ a.r.1 <;> (simp only [g1, g2, g3, g4, decide_true, decide_false, Bool.and_self, Bool.and_true, Bool.and_false, Bool.true_and, Bool.false_and] at h ⊢; exact h)
theorem p__law_bare (ds : List D) (n : NS) (q : D → NS → Prop) (e : DY) (hl : ds.length = 6) (h : s__law_bare A ds n q e) : t__law_bare K A cs { nx := fun _ n' => q .non n', rt := q, ex := fun _ => e } (startD N__law_bare ds) n := by
  obtain ⟨t, l, b, r, w, sh, rfl, h⟩ := h
  unfold t__law_bare
  simp only [dSeq, dNext, dIfS, dTest, dOp, dVar, dC, dRet, dRetN, dGet, dAnd, dOr, dNot, dAndV, dOrV, dNotV, dIf, dNil, dCons, dTup, dLst, dCB, dM0, dM1, dDrop, dAsg, dgName, dPar, dCal, dChain, dRaise, dRaise2, dFor, diSeq, items, diRange1, diRange2, dLc, dYes, dgTup, dgCons, dgNil, dSl, dPart, dNoPart, dNeg, dPenC, dPenA, dPenL, dPutA, dPutL, dgFld, dNew, dMet, dLstM, dFrz, dApp, dgIx, dAug, startD, List.map_cons, List.map_nil, List.length_cons, List.length_nil, List.replicate, Nat.reduceAdd, Nat.reduceSub, List.cons_append, List.nil_append, List.append_nil, List.set_cons_zero, List.set_cons_succ, List.getElem?_cons_zero, List.getElem?_cons_succ, dFld_eq, gIx0, gIx1, gIx2, gIx3, gIx4, lIx0, lIx1, true_and, Nat.reduceLeDiff]
  exact h
theorem p__law_meet (ds : List D) (n : NS) (q : D → NS → Prop) (e : DY) (hl : ds.length = 2) (h : s__law_meet A ds n q e) : t__law_meet K A cs { nx := fun _ n' => q .non n', rt := q, ex := fun _ => e } (startD N__law_meet ds) n := by
  obtain ⟨a, b, rfl, ha, hb, h⟩ := h
  unfold t__law_meet
  simp only [dSeq, dNext, dIfS, dTest, dOp, dVar, dC, dRet, dRetN, dGet, dAnd, dOr, dNot, dAndV, dOrV, dNotV, dIf, dNil, dCons, dTup, dLst, dCB, dM0, dM1, dDrop, dAsg, dgName, dPar, dCal, dChain, dRaise, dRaise2, dFor, diSeq, items, diRange1, diRange2, dLc, dYes, dgTup, dgCons, dgNil, dSl, dPart, dNoPart, dNeg, dPenC, dPenA, dPenL, dPutA, dPutL, dFld, dgFld, dNew, dMet, dLstM, dFrz, dApp, dgIx, dAug, startD, List.map_cons, List.map_nil, List.length_cons, List.length_nil, List.replicate, Nat.reduceAdd, Nat.reduceSub, List.cons_append, List.nil_append, List.append_nil, List.set_cons_zero, List.set_cons_succ, List.getElem?_cons_zero, List.getElem?_cons_succ, gIsN, isN_sh]
  unfold meetSh at h
  cases a with
  | none => exact ⟨by decide, h⟩
  | some a =>
    refine ⟨by decide, by decide, ?_⟩
    cases b with
    | none => exact h
    | some b =>
      obtain ⟨a1, a2⟩ := ha a rfl
      obtain ⟨b1, b2⟩ := hb b rfl
      simp only [shD, gLower, gEq, eqD, scEq]
      exact ⟨by omega, a1, by omega, b1, h⟩
end
end K17

set_option Elab.async false
set_option linter.all false
set_option maxRecDepth 100000
set_option maxHeartbeats 8000000
set_option autoImplicit false
namespace K17
open PySem PySem.Spec PyProof.Rows L2 DL
def cellD (A : Ad) (sh : Option (List Nat)) : D → D → D
  | .int r, .int c => adrD A ⟨r, c, false, false, sh⟩
  | _, _ => .non
theorem cells_map (A : Ad) (a : Ar) : (rangeD a.t.1 (hgt a).toNat).flatMap (fun d => (rangeD a.l.1 (wdt a).toNat).map (cellD A a.sh d)) = (cellsOf a).map (adrD A) := by
  unfold rangeD cellsOf
  simp only [List.flatMap_map, List.map_flatMap, List.map_map]
  rfl
section
variable {P : Program} {K : PySem.W.Frag} {mg : Str → Option Value} {A : Ad} {cs : List Int}
abbrev cellE (A : Ad) : DTE := dNew 2 ["sheet"] g_Address_new2 (s_Address A) (dCons (dVar 3) (dCons (dVar 4) dNil)) (dCons (dFld [A.Address, A.Area] "sheet" (dVar 0)) dNil)
theorem cell_one {a : Ar} {p1 p2 : Addr} {r c : Int} {m : Addr → Option MO} {t : Nat} {q : D → NS → Prop} (hs : shOk a.sh) (g : onGrid r c = true) (h : q (adrD A ⟨r, c, false, false, a.sh⟩) ⟨t, m⟩) : cellE A [some (areaD A a), some (.ref p1), some (.ref p2), some (.int r), some (.int c)] ⟨t, m⟩ q noX := by
  unfold cellE
  simp only [dSeq, dNext, dIfS, dTest, dOp, dVar, dC, dRet, dRetN, dGet, dAnd, dOr, dNot, dAndV, dOrV, dNotV, dIf, dNil, dCons, dTup, dLst, dCB, dM0, dM1, dDrop, dAsg, dgName, dPar, dCal, dChain, dRaise, dRaise2, dFor, diSeq, items, diRange1, diRange2, dLc, dYes, dgTup, dgCons, dgNil, dSl, dPart, dNoPart, dNeg, dPenC, dPenA, dPenL, dPutA, dPutL, dFld, dgFld, dNew, dMet, dLstM, dFrz, dApp, dgIx, dAug, startD, List.map_cons, List.map_nil, List.length_cons, List.length_nil, List.replicate, Nat.reduceAdd, Nat.reduceSub, List.cons_append, List.nil_append, List.append_nil, List.set_cons_zero, List.set_cons_succ, List.getElem?_cons_zero, List.getElem?_cons_succ]
  refine ⟨by simp, shD a.sh, rfl, trivial, trivial, _, _, _, _, _, rfl, adr_good hs (fun _ => h) fun z => absurd (z.symm.trans g) Bool.false_ne_true⟩
theorem cells_row {a : Ar} {p1 p2 : Addr} {r : Int} {μ : Addr → Option MO} {t : Nat} (hs : shOk a.sh) (hr : 1 ≤ r ∧ r ≤ 1000000) : ∀ (es acc : List D) (k : List D → Nat → Prop), (∀ d ∈ es, ∃ c : Int, d = .int c ∧ 1 ≤ c ∧ c ≤ 18278) → acc.length + es.length ≤ 100000 → k (acc ++ es.map (cellD A a.sh (.int r))) t →
    dLc2I (dgName 4) (cellE A) [4] [some (areaD A a), some (.ref p1), some (.ref p2), some (.int r), none] μ es acc t k
  | [], acc, k, _, _, h => by
    rw [List.map_nil, List.append_nil] at h
    exact h
  | d :: es, acc, k, hd, hl, h => by
    obtain ⟨c, rfl, c1, c2⟩ := hd d (.head _)
    rw [List.length_cons] at hl
    refine ⟨by omega, fun m hm => ?_⟩
    refine cell_one hs (grid_iff.mpr ⟨hr.1, hr.2, c1, c2⟩) ⟨rfl, ?_⟩
    refine cells_row hs hr es _ k (fun x y => hd x (.tail _ y)) (by rw [List.length_append, List.length_cons, List.length_nil]; omega) ?_
    rw [List.append_assoc]
    exact h
theorem cells_rows {a : Ar} {p1 p2 : Addr} {μ : Addr → Option MO} {t : Nat} (ha : ArN a) (hm : μ p2 = some (.rng a.l.1 (a.r.1 + 1))) : ∀ (rs acc : List D) (k : List D → Nat → Prop), (∀ d ∈ rs, ∃ c : Int, d = .int c ∧ 1 ≤ c ∧ c ≤ 1000000) → acc.length + rs.length * (wdt a).toNat ≤ 100000 → k (acc ++ rs.flatMap fun d => (rangeD a.l.1 (wdt a).toNat).map (cellD A a.sh d)) t →
    dLc2L (dgName 3) (diRngN (dVar 2)) (dgName 4) (cellE A) [3, 4] [4] [some (areaD A a), some (.ref p1), some (.ref p2), none, none] μ rs acc t k
  | [], acc, k, _, _, h => by
    rw [List.flatMap_nil, List.append_nil] at h
    exact h
  | d :: rs, acc, k, hd, hl, h => by
    obtain ⟨r, rfl, r1, r2⟩ := hd d (.head _)
    have l1 := ha.l.1; have l2 := ha.l.2; have r3 := ha.r.1; have r4 := ha.r.2; have lr := ha.lr
    have ew : (a.r.1 + 1 - a.l.1).toNat = (wdt a).toNat := by unfold wdt; congr 1; omega
    intro m hle
    refine ⟨p2, a.l.1, a.r.1 + 1, rfl, hle _ _ hm, ⟨by omega, by omega, by omega, by omega⟩, rfl, ?_⟩
    rw [ew]
    have L : (rangeD a.l.1 (wdt a).toNat).length = (wdt a).toNat := by simp [rangeD]
    rw [List.length_cons, Nat.succ_mul] at hl
    refine cells_row ha.s ⟨r1, r2⟩ _ acc _ (fun d hd => ?_) (by rw [L]; omega) ?_
    · unfold rangeD at hd
      obtain ⟨i, hi, rfl⟩ := List.mem_map.mp hd
      rw [List.mem_range] at hi
      refine ⟨_, rfl, by omega, ?_⟩
      have : (wdt a).toNat = a.r.1 - a.l.1 + 1 := by unfold wdt; omega
      omega
    · refine cells_rows ha hm rs _ k (fun x y => hd x (.tail _ y)) ?_ ?_
      · rw [List.length_append, List.length_map, L]
        omega
      · rw [List.append_assoc]
        exact h
theorem p_Area_cells (ds : List D) (n : NS) (q : D → NS → Prop) (e : DY) (hl : ds.length = 1) (h : s_Area_cells A ds n q e) : t_Area_cells K A cs { nx := fun _ n' => q .non n', rt := q, ex := fun _ => e } (startD N_Area_cells ds) n := by
  obtain ⟨t0, μ⟩ := n
  obtain ⟨a, rfl, ha, h1, h2⟩ := h
  have l1 := ha.l.1; have l2 := ha.l.2; have r3 := ha.r.1; have r4 := ha.r.2; have lr := ha.lr
  have t1 := ha.t.1; have t2 := ha.t.2; have b1 := ha.b.1; have b2 := ha.b.2; have tb := ha.tb
  have eh : (a.b.1 + 1 - a.t.1).toNat = (hgt a).toNat := by unfold hgt; congr 1; omega
  have hh : ((hgt a).toNat : Int) = a.b.1 - a.t.1 + 1 := by unfold hgt; omega
  have hw : ((wdt a).toNat : Int) = a.r.1 - a.l.1 + 1 := by unfold wdt; omega
  unfold t_Area_cells
  simp only [dForg, dSeq, dNext, dIfS, dTest, dOp, dVar, dC, dRet, dRetN, dGet, dAnd, dOr, dNot, dAndV, dOrV, dNotV, dIf, dNil, dCons, dTup, dLst, dCB, dM0, dM1, dDrop, dAsg, dgName, dPar, dCal, dChain, dRaise, dRaise2, dFor, diSeq, items, diRange1, diRange2, dLc, dYes, dgTup, dgCons, dgNil, dSl, dPart, dNoPart, dNeg, dPenC, dPenA, dPenL, dPutA, dPutL, dgFld, dNew, dMet, dLstM, dFrz, dApp, dgIx, dAug, startD, List.map_cons, List.map_nil, List.length_cons, List.length_nil, List.replicate, Nat.reduceAdd, Nat.reduceSub, List.cons_append, List.nil_append, List.append_nil, List.set_cons_zero, List.set_cons_succ, List.getElem?_cons_zero, List.getElem?_cons_succ, dFld_eq, gIx0, gIx1, gIx2, gIx3, gIx4, lIx0, lIx1, true_and, Nat.reduceLeDiff, f_first, f_last, f_whole, f_height, f_width, f_shR, f_shA, f_row, f_column, fst_r, fst_c, lst_r, lst_c, gAdd, DL.gSub, gI0, gGt, gLe, gLt, gOrd, normT, areaT, prD, gMul, gI]
  refine ⟨mul_l (by unfold hgt; omega), ?_⟩
  by_cases c : 10000 < hgt a * wdt a
  · simp only [decide_eq_true c]
    exact ⟨_, NS.Sub.refl _, h1 c⟩
  simp only [decide_eq_false c]
  simp only [dRngV, dSeq, dNext, dIfS, dTest, dOp, dVar, dC, dRet, dRetN, dGet, dAnd, dOr, dNot, dAndV, dOrV, dNotV, dIf, dNil, dCons, dTup, dLst, dCB, dM0, dM1, dDrop, dAsg, dgName, dPar, dCal, dChain, dRaise, dRaise2, dFor, diSeq, items, diRange1, diRange2, dLc, dYes, dgTup, dgCons, dgNil, dSl, dPart, dNoPart, dNeg, dPenC, dPenA, dPenL, dPutA, dPutL, dgFld, dNew, dMet, dLstM, dFrz, dApp, dgIx, dAug, startD, List.map_cons, List.map_nil, List.length_cons, List.length_nil, List.replicate, Nat.reduceAdd, Nat.reduceSub, List.cons_append, List.nil_append, List.append_nil, List.set_cons_zero, List.set_cons_succ, List.getElem?_cons_zero, List.getElem?_cons_succ, dFld_eq, gIx0, gIx1, gIx2, gIx3, gIx4, lIx0, lIx1, true_and, Nat.reduceLeDiff, f_first, f_last, f_whole, f_height, f_width, f_shR, f_shA, f_row, f_column, fst_r, fst_c, lst_r, lst_c, gAdd, DL.gSub, gI0, gGt, gLe, gLt, gOrd, normT, areaT, prD]
  intro p1 hp1 p2 hp2
  simp only [dLc2, diRngN, dSeq, dNext, dIfS, dTest, dOp, dVar, dC, dRet, dRetN, dGet, dAnd, dOr, dNot, dAndV, dOrV, dNotV, dIf, dNil, dCons, dTup, dLst, dCB, dM0, dM1, dDrop, dAsg, dgName, dPar, dCal, dChain, dRaise, dRaise2, dFor, diSeq, items, diRange1, diRange2, dLc, dYes, dgTup, dgCons, dgNil, dSl, dPart, dNoPart, dNeg, dPenC, dPenA, dPenL, dPutA, dPutL, dgFld, dNew, dMet, dLstM, dFrz, dApp, dgIx, dAug, startD, List.map_cons, List.map_nil, List.length_cons, List.length_nil, List.replicate, Nat.reduceAdd, Nat.reduceSub, List.cons_append, List.nil_append, List.append_nil, List.set_cons_zero, List.set_cons_succ, List.getElem?_cons_zero, List.getElem?_cons_succ, dFld_eq, gIx0, gIx1, gIx2, gIx3, gIx4, lIx0, lIx1, true_and, Nat.reduceLeDiff, gTuple]
  have n12 : p1 ≠ p2 := fun z => by rw [← z, mup_same] at hp2; cases hp2
  have hp2' : μ p2 = none := by rw [mup_ne (fun z => n12 z.symm)] at hp2; exact hp2
  refine ⟨p1, a.t.1, a.b.1 + 1, rfl, by rw [mup_ne n12, mup_same], ⟨by omega, by omega, by omega, by omega⟩, ?_⟩
  rw [eh]
  have L : (rangeD a.t.1 (hgt a).toNat).length = (hgt a).toNat := by simp [rangeD]
  refine cells_rows ha mup_same _ [] _ (fun d hd => ?_) ?_ ?_
  · unfold rangeD at hd
    obtain ⟨i, hi, rfl⟩ := List.mem_map.mp hd
    rw [List.mem_range] at hi
    exact ⟨_, rfl, by omega, by omega⟩
  · rw [List.length_nil, L, Nat.zero_add]
    have e1 : (((hgt a).toNat * (wdt a).toNat : Nat) : Int) = hgt a * wdt a := by
      rw [Int.natCast_mul, Int.toNat_of_nonneg (by unfold hgt; omega), Int.toNat_of_nonneg (by unfold wdt; omega)]
    omega
  · rw [List.nil_append, cells_map]
    refine ⟨⟨t0, μ⟩, ⟨Nat.le_refl _, fun b u z => ?_⟩, h2 (by omega)⟩
    show mup (mup μ p1 _) p2 _ b = some u
    change μ b = some u at z
    have b2 : b ≠ p2 := fun y => by rw [y, hp2'] at z; cases z
    have b1 : b ≠ p1 := fun y => by rw [y, hp1] at z; cases z
    rw [mup_ne b2, mup_ne b1]
    exact z
end
end K17

set_option Elab.async false
set_option linter.all false
set_option maxRecDepth 100000
set_option maxHeartbeats 8000000
set_option autoImplicit false
namespace K17
open PySem PySem.Spec PyProof.Rows L2 DL
/-! ### areas of the law, compared -/
def pyPr (x : IB) : PyData := .tuple [.int x.1, .bool x.2]
def pyW : Nat → PyData
  | 0 => .none
  | 1 => .str (DL.S COLS)
  | _ => .str (DL.S ROWS)
theorem py_pr (x : IB) : py (prD x) = some (pyPr x) := rfl
theorem py_w (w : Nat) : py (whD w) = some (pyW w) := by
  rcases w with _ | _ | w <;> rfl
theorem eqv_pr (x y : IB) : PyData.eqv (pyPr x) (pyPr y) = decide (x = y) := by
  obtain ⟨i, b⟩ := x
  obtain ⟨j, c⟩ := y
  unfold pyPr
  simp only [PyData.eqv, PyData.eqvAll, Bool.and_true]
  rw [show (i == j) = decide (i = j) from rfl]
  cases b <;> cases c <;> simp
theorem eqv_w {w w' : Nat} (h : w ≤ 2) (h' : w' ≤ 2) : PyData.eqv (pyW w) (pyW w') = decide (w = w') := by
  rcases w3 h with rfl | rfl | rfl <;> rcases w3 h' with rfl | rfl | rfl <;> decide +kernel
def py3 (a : Ar) : PyData := .tuple [.list [pyPr a.t, pyPr a.b], .list [pyPr a.l, pyPr a.r], pyW a.w]
def py4 (a : Ar) : PyData := .tuple [.list [pyPr a.t, pyPr a.b], .list [pyPr a.l, pyPr a.r], pyW a.w, pySh a.sh]
theorem py_3 (a : Ar) : py (.tup [.lst [prD a.t, prD a.b], .lst [prD a.l, prD a.r], whD a.w]) = some (py3 a) := by
  simp only [py, pyL, py_pr, py_w, Option.map_some, py3]
theorem py_4 (a : Ar) : py (normT a) = some (py4 a) := by
  unfold normT areaT
  simp only [py, pyL, py_pr, py_w, py_sh, Option.map_some, py4]
theorem okC : PyData.strOk (DL.S COLS) = true := strOk_S (by unfold ascii; decide)
theorem okR : PyData.strOk (DL.S ROWS) = true := strOk_S (by unfold ascii; decide)
theorem shaped_3 {a : Ar} (h : a.w ≤ 2) : SeqAt.shaped (py3 a) = true := by
  unfold py3 pyPr
  rcases w3 h with e | e | e <;> rw [e] <;> simp only [pySh, pyW, SeqAt.shaped, PyData.canLay0, PyData.canLayAll0, okC, okR, PyData.depth, PyData.depthAll] <;> rfl
theorem shaped_4 {a : Ar} (h : a.w ≤ 2) (hs : shA a.sh) : SeqAt.shaped (py4 a) = true := by
  unfold py4 pyPr
  cases z : a.sh with
  | none => rcases w3 h with e | e | e <;> rw [e] <;> simp only [pySh, pyW, SeqAt.shaped, PyData.canLay0, PyData.canLayAll0, okC, okR, PyData.depth, PyData.depthAll] <;> rfl
  | some l =>
    have o := strOk_S (hs l z).1
    rcases w3 h with e | e | e <;> rw [e] <;> simp only [pySh, pyW, SeqAt.shaped, PyData.canLay0, PyData.canLayAll0, o, okC, okR, PyData.depth, PyData.depthAll] <;> rfl
theorem eqv_3 {a b : Ar} (h : a.w ≤ 2) (h' : b.w ≤ 2) : PyData.eqv (py3 a) (py3 b) = (decide (a.t = b.t) && decide (a.b = b.b) && (decide (a.l = b.l) && decide (a.r = b.r)) && decide (a.w = b.w)) := by
  unfold py3
  simp only [PyData.eqv, PyData.eqvAll, Bool.and_true, eqv_pr, eqv_w h h']
  simp only [Bool.and_assoc]
theorem sameAr_is (a b : Ar) : sameAr a b = ((decide (a.t = b.t) && decide (a.b = b.b) && (decide (a.l = b.l) && decide (a.r = b.r)) && decide (a.w = b.w)) && sameSh a.sh b.sh) := by
  obtain ⟨⟨t, t'⟩, ⟨b1, b1'⟩, ⟨l, l'⟩, ⟨r, r'⟩, w, sh⟩ := a
  obtain ⟨⟨u, u'⟩, ⟨b2, b2'⟩, ⟨m, m'⟩, ⟨s, s'⟩, v, sg⟩ := b
  unfold sameAr sameA fst lst
  simp only
  generalize sameSh sh sg = z
  rw [Bool.eq_iff_iff]
  simp only [Bool.and_eq_true, decide_eq_true_eq, Prod.mk.injEq]
  constructor <;> intro h <;> simp_all
section
variable {P : Program} {K : PySem.W.Frag} {mg : Str → Option Value} {A : Ad} {cs : List Int}
theorem p__law_alike (ds : List D) (n : NS) (q : D → NS → Prop) (e : DY) (hl : ds.length = 2) (h : s__law_alike A ds n q e) : t__law_alike K A cs { nx := fun _ n' => q .non n', rt := q, ex := fun _ => e } (startD N__law_alike ds) n := by
  obtain ⟨a, b, rfl, ha, hb, h⟩ := h
  unfold t__law_alike
  have c3 : ∀ x y z u : D, cutL [x, y, z, u] none (some 3) = [x, y, z] := fun x y z u => cut_to [x, y, z, u] 3
  simp only [dSeq, dNext, dIfS, dTest, dOp, dVar, dC, dRet, dRetN, dGet, dAnd, dOr, dNot, dAndV, dOrV, dNotV, dIf, dNil, dCons, dTup, dLst, dCB, dM0, dM1, dDrop, dAsg, dgName, dPar, dCal, dChain, dRaise, dRaise2, dFor, diSeq, items, diRange1, diRange2, dLc, dYes, dgTup, dgCons, dgNil, dSl, dPart, dNoPart, dNeg, dPenC, dPenA, dPenL, dPutA, dPutL, dgFld, dNew, dMet, dLstM, dFrz, dApp, dgIx, dAug, startD, List.map_cons, List.map_nil, List.length_cons, List.length_nil, List.replicate, Nat.reduceAdd, Nat.reduceSub, List.cons_append, List.nil_append, List.append_nil, List.set_cons_zero, List.set_cons_succ, List.getElem?_cons_zero, List.getElem?_cons_succ, dFld_eq, gIx0, gIx1, gIx2, gIx3, gIx4, lIx0, lIx1, true_and, Nat.reduceLeDiff, f_first, f_last, f_whole, f_height, f_width, f_shR, f_shA, f_row, f_column, fst_r, fst_c, lst_r, lst_c, gAdd, DL.gSub, gI0, gGt, gLe, gLt, gOrd, normT, areaT, prD, c3, gNe]
  have sc : ∀ x y : List D, scEq (.tup x) (.tup y) = none := fun _ _ => rfl
  simp only [eqD, sc]
  refine ⟨py3 a, py3 b, py_3 a, py_3 b, shaped_3 ha.w, shaped_3 hb.w, ?_⟩
  rw [eqv_3 ha.w hb.w]
  rw [sameAr_is] at h
  generalize (decide (a.t = b.t) && decide (a.b = b.b) && (decide (a.l = b.l) && decide (a.r = b.r)) && decide (a.w = b.w)) = c at h ⊢
  cases c with
  | false => exact h
  | true =>
    simp only [gIsN, Bool.not_true, isN_sh, true_and]
    have ha' := shA_of ha.s
    have hb' := shA_of hb.s
    cases h1 : a.sh with
    | none =>
      rw [h1] at h
      cases h2 : b.sh with
      | none => rw [h2] at h; exact h
      | some l => rw [h2] at h; exact h
    | some k =>
      rw [h1] at h
      cases h2 : b.sh with
      | none => rw [h2] at h; exact h
      | some l =>
        rw [h2] at h
        obtain ⟨a1, a2⟩ := ha' k h1
        obtain ⟨b1, b2⟩ := hb' l h2
        simp only [Option.isNone, scEq, decide_true, Bool.not_true, shD, gLower, gEq, eqD]
        exact ⟨by omega, a1, by omega, b1, h⟩
theorem p__law_shared (ds : List D) (n : NS) (q : D → NS → Prop) (e : DY) (hl : ds.length = 2) (h : s__law_shared A ds n q e) : t__law_shared K A cs { nx := fun _ n' => q .non n', rt := q, ex := fun _ => e } (startD N__law_shared ds) n := by
  obtain ⟨a, b, rfl, ha, hb, h⟩ := h
  unfold t__law_shared
  simp only [dSeq, dNext, dIfS, dTest, dOp, dVar, dC, dRet, dRetN, dGet, dAnd, dOr, dNot, dAndV, dOrV, dNotV, dIf, dNil, dCons, dTup, dLst, dCB, dM0, dM1, dDrop, dAsg, dgName, dPar, dCal, dChain, dRaise, dRaise2, dFor, diSeq, items, diRange1, diRange2, dLc, dYes, dgTup, dgCons, dgNil, dSl, dPart, dNoPart, dNeg, dPenC, dPenA, dPenL, dPutA, dPutL, dgFld, dNew, dMet, dLstM, dFrz, dApp, dgIx, dAug, startD, List.map_cons, List.map_nil, List.length_cons, List.length_nil, List.replicate, Nat.reduceAdd, Nat.reduceSub, List.cons_append, List.nil_append, List.append_nil, List.set_cons_zero, List.set_cons_succ, List.getElem?_cons_zero, List.getElem?_cons_succ, dFld_eq, gIx0, gIx1, gIx2, gIx3, gIx4, lIx0, lIx1, true_and, Nat.reduceLeDiff, f_first, f_last, f_whole, f_height, f_width, f_shR, f_shA, f_row, f_column, fst_r, fst_c, lst_r, lst_c, gAdd, DL.gSub, gI0, gGt, gLe, gLt, gOrd, normT, areaT, prD, gMax, gMin]
  unfold u__law_shared_2
  simp only [dSeq, dNext, dIfS, dTest, dOp, dVar, dC, dRet, dRetN, dGet, dAnd, dOr, dNot, dAndV, dOrV, dNotV, dIf, dNil, dCons, dTup, dLst, dCB, dM0, dM1, dDrop, dAsg, dgName, dPar, dCal, dChain, dRaise, dRaise2, dFor, diSeq, items, diRange1, diRange2, dLc, dYes, dgTup, dgCons, dgNil, dSl, dPart, dNoPart, dNeg, dPenC, dPenA, dPenL, dPutA, dPutL, dgFld, dNew, dMet, dLstM, dFrz, dApp, dgIx, dAug, startD, List.map_cons, List.map_nil, List.length_cons, List.length_nil, List.replicate, Nat.reduceAdd, Nat.reduceSub, List.cons_append, List.nil_append, List.append_nil, List.set_cons_zero, List.set_cons_succ, List.getElem?_cons_zero, List.getElem?_cons_succ, dFld_eq, gIx0, gIx1, gIx2, gIx3, gIx4, lIx0, lIx1, true_and, Nat.reduceLeDiff, f_first, f_last, f_whole, f_height, f_width, f_shR, f_shA, f_row, f_column, fst_r, fst_c, lst_r, lst_c, gAdd, DL.gSub, gI0, gGt, gLe, gLt, gOrd, normT, areaT, prD, gMax, gMin]
  unfold u__law_shared_3
  simp only [dSeq, dNext, dIfS, dTest, dOp, dVar, dC, dRet, dRetN, dGet, dAnd, dOr, dNot, dAndV, dOrV, dNotV, dIf, dNil, dCons, dTup, dLst, dCB, dM0, dM1, dDrop, dAsg, dgName, dPar, dCal, dChain, dRaise, dRaise2, dFor, diSeq, items, diRange1, diRange2, dLc, dYes, dgTup, dgCons, dgNil, dSl, dPart, dNoPart, dNeg, dPenC, dPenA, dPenL, dPutA, dPutL, dgFld, dNew, dMet, dLstM, dFrz, dApp, dgIx, dAug, startD, List.map_cons, List.map_nil, List.length_cons, List.length_nil, List.replicate, Nat.reduceAdd, Nat.reduceSub, List.cons_append, List.nil_append, List.append_nil, List.set_cons_zero, List.set_cons_succ, List.getElem?_cons_zero, List.getElem?_cons_succ, dFld_eq, gIx0, gIx1, gIx2, gIx3, gIx4, lIx0, lIx1, true_and, Nat.reduceLeDiff, f_first, f_last, f_whole, f_height, f_width, f_shR, f_shA, f_row, f_column, fst_r, fst_c, lst_r, lst_c, gAdd, DL.gSub, gI0, gGt, gLe, gLt, gOrd, normT, areaT, prD, gMax, gMin]
  have e1 : (if b.t.1 > a.t.1 then b.t.1 else a.t.1) = imax a.t.1 b.t.1 := rfl
  have e2 : (if b.b.1 < a.b.1 then b.b.1 else a.b.1) = imin a.b.1 b.b.1 := rfl
  have e3 : (if b.l.1 > a.l.1 then b.l.1 else a.l.1) = imax a.l.1 b.l.1 := rfl
  have e4 : (if b.r.1 < a.r.1 then b.r.1 else a.r.1) = imin a.r.1 b.r.1 := rfl
  rw [e1, e2, e3, e4]
  unfold shared at h
  by_cases c1 : imin a.b.1 b.b.1 < imax a.t.1 b.t.1
  · simp only [decide_eq_true c1]
    rw [if_pos (.inl c1)] at h
    exact h
  simp only [decide_eq_false c1]
  by_cases c2 : imin a.r.1 b.r.1 < imax a.l.1 b.l.1
  · simp only [decide_eq_true c2]
    rw [if_pos (.inr (.inl c2))] at h
    exact h
  simp only [decide_eq_false c2]
  refine ⟨a.sh, b.sh, rfl, shA_of ha.s, shA_of hb.s, ?_⟩
  cases c3 : meetSh a.sh b.sh with
  | false =>
    rw [if_pos (.inr (.inr c3))] at h
    exact h
  | true =>
    have c4 : ¬ (imin a.b.1 b.b.1 < imax a.t.1 b.t.1 ∨ imin a.r.1 b.r.1 < imax a.l.1 b.l.1 ∨ meetSh a.sh b.sh = false) := fun z => by
      rcases z with z | z | z
      · exact c1 z
      · exact c2 z
      · rw [c3] at z; cases z
    rw [if_neg c4] at h
    simp only [Bool.not_true]
    unfold u__law_shared_4
    simp only [dSeq, dNext, dIfS, dTest, dOp, dVar, dC, dRet, dRetN, dGet, dAnd, dOr, dNot, dAndV, dOrV, dNotV, dIf, dNil, dCons, dTup, dLst, dCB, dM0, dM1, dDrop, dAsg, dgName, dPar, dCal, dChain, dRaise, dRaise2, dFor, diSeq, items, diRange1, diRange2, dLc, dYes, dgTup, dgCons, dgNil, dSl, dPart, dNoPart, dNeg, dPenC, dPenA, dPenL, dPutA, dPutL, dgFld, dNew, dMet, dLstM, dFrz, dApp, dgIx, dAug, startD, List.map_cons, List.map_nil, List.length_cons, List.length_nil, List.replicate, Nat.reduceAdd, Nat.reduceSub, List.cons_append, List.nil_append, List.append_nil, List.set_cons_zero, List.set_cons_succ, List.getElem?_cons_zero, List.getElem?_cons_succ, dFld_eq, gIx0, gIx1, gIx2, gIx3, gIx4, lIx0, lIx1, true_and, Nat.reduceLeDiff, f_first, f_last, f_whole, f_height, f_width, f_shR, f_shA, f_row, f_column, fst_r, fst_c, lst_r, lst_c, gAdd, DL.gSub, gI0, gGt, gLe, gLt, gOrd, normT, areaT, prD, gIsN, isN_sh]
    have go : u__law_shared_5 K A cs { nx := fun _ n' => q .non n', rt := q, ex := fun _ => e } [some (normT a), some (normT b), some (.int (imax a.t.1 b.t.1)), some (.int (imin a.b.1 b.b.1)), some (.int (imax a.l.1 b.l.1)), some (.int (imin a.r.1 b.r.1)), some (shD (if a.sh = none then b.sh else a.sh))] n := by
      unfold u__law_shared_5
      simp only [dSeq, dNext, dIfS, dTest, dOp, dVar, dC, dRet, dRetN, dGet, dAnd, dOr, dNot, dAndV, dOrV, dNotV, dIf, dNil, dCons, dTup, dLst, dCB, dM0, dM1, dDrop, dAsg, dgName, dPar, dCal, dChain, dRaise, dRaise2, dFor, diSeq, items, diRange1, diRange2, dLc, dYes, dgTup, dgCons, dgNil, dSl, dPart, dNoPart, dNeg, dPenC, dPenA, dPenL, dPutA, dPutL, dgFld, dNew, dMet, dLstM, dFrz, dApp, dgIx, dAug, startD, List.map_cons, List.map_nil, List.length_cons, List.length_nil, List.replicate, Nat.reduceAdd, Nat.reduceSub, List.cons_append, List.nil_append, List.append_nil, List.set_cons_zero, List.set_cons_succ, List.getElem?_cons_zero, List.getElem?_cons_succ, dFld_eq, gIx0, gIx1, gIx2, gIx3, gIx4, lIx0, lIx1, true_and, Nat.reduceLeDiff, f_first, f_last, f_whole, f_height, f_width, f_shR, f_shA, f_row, f_column, fst_r, fst_c, lst_r, lst_c, gAdd, DL.gSub, gI0, gGt, gLe, gLt, gOrd, normT, areaT, prD, gEq]
      refine wh_cmp ha.w hb.w ?_
      by_cases c5 : a.w = b.w
      · rw [if_pos c5] at h
        rw [decide_eq_true c5]
        exact ⟨_, _, _, _, _, _, rfl, h⟩
      · rw [if_neg c5] at h
        rw [decide_eq_false c5]
        exact ⟨_, _, _, _, 0, _, rfl, h⟩
    cases c6 : a.sh with
    | none =>
      rw [c6, if_pos rfl] at go
      simp only [Option.isNone]
      simp only [normT, areaT, prD, c6] at go
      exact go
    | some l =>
      rw [c6, if_neg (fun z => by cases z)] at go
      simp only [Option.isNone]
      simp only [normT, areaT, prD, c6] at go
      exact go
end
end K17

set_option Elab.async false
set_option linter.all false
set_option maxRecDepth 100000
set_option maxHeartbeats 8000000
set_option autoImplicit false
namespace K17
open PySem PySem.Spec PyProof.Rows L2 DL
def THIRD : List Nat := [84, 104, 105, 114, 100]
def ODDS : List D := [.str [], .str [99, 111, 108, 117, 109, 110], .int 1, .bl true, .lst [.str ROWS]]
theorem odd_w {x : D} (h : x ∈ ODDS) : OddW x := by
  simp only [ODDS, List.mem_cons, List.not_mem_nil, or_false] at h
  rcases h with rfl | rfl | rfl | rfl | rfl
  · exact ⟨⟨rfl, fun l e => by cases e; decide⟩, rfl, fun _ h => h, fun _ h => h⟩
  · exact ⟨⟨rfl, fun l e => by cases e; decide⟩, rfl, fun _ h => h, fun _ h => h⟩
  · exact ⟨⟨rfl, fun l e => by cases e⟩, rfl, fun _ h => h, fun _ h => h⟩
  · exact ⟨⟨rfl, fun l e => by cases e⟩, rfl, fun _ h => h, fun _ h => h⟩
  · exact ⟨⟨rfl, fun l e => by cases e⟩, rfl, fun _ h => ⟨_, _, rfl, rfl, by decide +kernel, by decide +kernel, h⟩, fun _ h => ⟨_, _, rfl, rfl, by decide +kernel, by decide +kernel, h⟩⟩
def BAD : List Nat := [66, 97, 100, 86, 97, 108, 117, 101]
theorem odd_ne {x : D} {k : Bool → Prop} (h : x ∈ ODDS) (hk : k true) : eqD (.tup [.str BAD, x]) (.tup [.str BAD, x]) k := by
  simp only [ODDS, List.mem_cons, List.not_mem_nil, or_false] at h
  rcases h with rfl | rfl | rfl | rfl | rfl
  all_goals exact ⟨_, _, rfl, rfl, by decide +kernel, by decide +kernel, hk⟩
theorem shs_ok {sh : Option (List Nat)} (h : sh ∈ SHS) : shOk sh ∧ okSh sh none = true ∧ okSh sh (some THIRD) = false ∧ ∀ l, sh = some l → l.length ≤ 1000 ∧ l.all (· < 128) = true ∧ (shOk (some (l.map lo1)) ∧ okSh sh (some (l.map lo1)) = true) ∧ (shOk (some (l.map up1)) ∧ okSh sh (some (l.map up1)) = true) := by
  simp only [SHS, List.mem_cons, List.not_mem_nil, or_false] at h
  rcases h with rfl | rfl | rfl | rfl
  · exact ⟨fun l e => by (cases e), rfl, rfl, fun l e => by cases e⟩
  all_goals
    refine ⟨fun l e => by cases e; decide +kernel, rfl, by decide +kernel, fun l e => ?_⟩
    cases e
    exact ⟨by decide, by decide, ⟨fun l e => by cases e; decide +kernel, by decide +kernel⟩, ⟨fun l e => by cases e; decide +kernel, by decide +kernel⟩⟩
section
variable {P : Program} {K : PySem.W.Frag} {mg : Str → Option Value} {A : Ad} {cs : List Int}
theorem p__law_made_right (T : Txt P K mg A) (ds : List D) (n : NS) (q : D → NS → Prop) (e : DY) (hl : ds.length = 2) (h : s__law_made_right A ds n q e) : t__law_made_right K A cs { nx := fun _ n' => q .non n', rt := q, ex := fun _ => e } (startD N__law_made_right ds) n := by
  obtain ⟨t0, μ⟩ := n
  obtain ⟨x, y, u, v, w, sh, rfl, O, hsh, hn, h⟩ := h
  simp only [lim] at hn h
  obtain ⟨s1, s2, s3, s4⟩ := shs_ok hsh
  have N := nrm_N O
  have N1 : (nrm x y u v w sh).sh = sh := rfl
  have N2 : (nrm x y u v w sh).w = w := rfl
  have P1 : PlOk ⟨y.1, u.1, y.2, u.2, sh⟩ := ⟨grid_iff.mpr ⟨O.y.1, O.y.2, O.u.1, O.u.2⟩, s1⟩
  have P2 : ∀ so, shOk so → PlOk ⟨x.1, v.1, x.2, v.2, so⟩ := fun so hs => ⟨grid_iff.mpr ⟨O.x.1, O.x.2, O.v.1, O.v.2⟩, hs⟩
  unfold t__law_made_right
  simp only [dSeq, dNext, dIfS, dTest, dOp, dVar, dC, dRet, dRetN, dGet, dAnd, dOr, dNot, dAndV, dOrV, dNotV, dIf, dNil, dCons, dTup, dLst, dCB, dM0, dM1, dDrop, dAsg, dgName, dPar, dCal, dChain, dRaise, dRaise2, dFor, diSeq, items, diRange1, diRange2, dLc, dYes, dgTup, dgCons, dgNil, dSl, dPart, dNoPart, dNeg, dPenC, dPenA, dPenL, dPutA, dPutL, dgFld, dNew, dMet, dLstM, dFrz, dApp, dgIx, dAug, startD, List.map_cons, List.map_nil, List.length_cons, List.length_nil, List.replicate, Nat.reduceAdd, Nat.reduceSub, List.cons_append, List.nil_append, List.append_nil, List.set_cons_zero, List.set_cons_succ, List.getElem?_cons_zero, List.getElem?_cons_succ, dFld_eq, gIx0, gIx1, gIx2, gIx3, gIx4, lIx0, lIx1, true_and, Nat.reduceLeDiff, f_first, f_last, f_whole, f_height, f_width, f_shR, f_shA, f_row, f_column, fst_r, fst_c, lst_r, lst_c, gAdd, DL.gSub, gI0, gGt, gLe, gLt, gOrd, normT, areaT, prD]
  unfold u__law_made_right_2
  simp only [dSeq, dNext, dIfS, dTest, dOp, dVar, dC, dRet, dRetN, dGet, dAnd, dOr, dNot, dAndV, dOrV, dNotV, dIf, dNil, dCons, dTup, dLst, dCB, dM0, dM1, dDrop, dAsg, dgName, dPar, dCal, dChain, dRaise, dRaise2, dFor, diSeq, items, diRange1, diRange2, dLc, dYes, dgTup, dgCons, dgNil, dSl, dPart, dNoPart, dNeg, dPenC, dPenA, dPenL, dPutA, dPutL, dgFld, dNew, dMet, dLstM, dFrz, dApp, dgIx, dAug, startD, List.map_cons, List.map_nil, List.length_cons, List.length_nil, List.replicate, Nat.reduceAdd, Nat.reduceSub, List.cons_append, List.nil_append, List.append_nil, List.set_cons_zero, List.set_cons_succ, List.getElem?_cons_zero, List.getElem?_cons_succ, dFld_eq, gIx0, gIx1, gIx2, gIx3, gIx4, lIx0, lIx1, true_and, Nat.reduceLeDiff, f_first, f_last, f_whole, f_height, f_width, f_shR, f_shA, f_row, f_column, fst_r, fst_c, lst_r, lst_c, gAdd, DL.gSub, gI0, gGt, gLe, gLt, gOrd, normT, areaT, prD]
  refine ⟨x, y, u, v, w, sh, rfl, O.w, ?_⟩
  unfold u__law_made_right_3
  simp only [dSeq, dNext, dIfS, dTest, dOp, dVar, dC, dRet, dRetN, dGet, dAnd, dOr, dNot, dAndV, dOrV, dNotV, dIf, dNil, dCons, dTup, dLst, dCB, dM0, dM1, dDrop, dAsg, dgName, dPar, dCal, dChain, dRaise, dRaise2, dFor, diSeq, items, diRange1, diRange2, dLc, dYes, dgTup, dgCons, dgNil, dSl, dPart, dNoPart, dNeg, dPenC, dPenA, dPenL, dPutA, dPutL, dgFld, dNew, dMet, dLstM, dFrz, dApp, dgIx, dAug, startD, List.map_cons, List.map_nil, List.length_cons, List.length_nil, List.replicate, Nat.reduceAdd, Nat.reduceSub, List.cons_append, List.nil_append, List.append_nil, List.set_cons_zero, List.set_cons_succ, List.getElem?_cons_zero, List.getElem?_cons_succ, dFld_eq, gIx0, gIx1, gIx2, gIx3, gIx4, lIx0, lIx1, true_and, Nat.reduceLeDiff, f_first, f_last, f_whole, f_height, f_width, f_shR, f_shA, f_row, f_column, fst_r, fst_c, lst_r, lst_c, gAdd, DL.gSub, gI0, gGt, gLe, gLt, gOrd, normT, areaT, prD]
  refine ⟨x, y, u, v, w, sh, rfl, O, nrm x y u v w sh, rfl, shA_of s1, O.w, ?_⟩
  simp only [Bool.not_true]
  unfold u__law_made_right_4
  simp only [dSeq, dNext, dIfS, dTest, dOp, dVar, dC, dRet, dRetN, dGet, dAnd, dOr, dNot, dAndV, dOrV, dNotV, dIf, dNil, dCons, dTup, dLst, dCB, dM0, dM1, dDrop, dAsg, dgName, dPar, dCal, dChain, dRaise, dRaise2, dFor, diSeq, items, diRange1, diRange2, dLc, dYes, dgTup, dgCons, dgNil, dSl, dPart, dNoPart, dNeg, dPenC, dPenA, dPenL, dPutA, dPutL, dgFld, dNew, dMet, dLstM, dFrz, dApp, dgIx, dAug, startD, List.map_cons, List.map_nil, List.length_cons, List.length_nil, List.replicate, Nat.reduceAdd, Nat.reduceSub, List.cons_append, List.nil_append, List.append_nil, List.set_cons_zero, List.set_cons_succ, List.getElem?_cons_zero, List.getElem?_cons_succ, dFld_eq, gIx0, gIx1, gIx2, gIx3, gIx4, lIx0, lIx1, true_and, Nat.reduceLeDiff, f_first, f_last, f_whole, f_height, f_width, f_shR, f_shA, f_row, f_column, fst_r, fst_c, lst_r, lst_c, gAdd, DL.gSub, gI0, gGt, gLe, gLt, gOrd, normT, areaT, prD]
  unfold u__law_made_right_5
  simp only [dSeq, dNext, dIfS, dTest, dOp, dVar, dC, dRet, dRetN, dGet, dAnd, dOr, dNot, dAndV, dOrV, dNotV, dIf, dNil, dCons, dTup, dLst, dCB, dM0, dM1, dDrop, dAsg, dgName, dPar, dCal, dChain, dRaise, dRaise2, dFor, diSeq, items, diRange1, diRange2, dLc, dYes, dgTup, dgCons, dgNil, dSl, dPart, dNoPart, dNeg, dPenC, dPenA, dPenL, dPutA, dPutL, dgFld, dNew, dMet, dLstM, dFrz, dApp, dgIx, dAug, startD, List.map_cons, List.map_nil, List.length_cons, List.length_nil, List.replicate, Nat.reduceAdd, Nat.reduceSub, List.cons_append, List.nil_append, List.append_nil, List.set_cons_zero, List.set_cons_succ, List.getElem?_cons_zero, List.getElem?_cons_succ, dFld_eq, gIx0, gIx1, gIx2, gIx3, gIx4, lIx0, lIx1, true_and, Nat.reduceLeDiff, f_first, f_last, f_whole, f_height, f_width, f_shR, f_shA, f_row, f_column, fst_r, fst_c, lst_r, lst_c, gAdd, DL.gSub, gI0, gGt, gLe, gLt, gOrd, normT, areaT, prD, gIsN, isN_sh]
  have go : ∀ so t1, shOk so → okSh sh so = true → t0 ≤ t1 → t1 ≤ t0 + 1 → u__law_made_right_6 K A cs { nx := fun _ n' => q .non n', rt := q, ex := fun _ => e }
      [some .pen, some (areaT x y u v w sh), some (.lst [prD x, prD y]), some (.lst [prD u, prD v]), some (whD w), some (shD sh), some (normT (nrm x y u v w sh)), some (placeD ⟨y.1, u.1, y.2, u.2, sh⟩), some (shD so), none, none, none, none] ⟨t1, μ⟩ := fun so t1 o1 o2 ht1 ht2 => by
    have P3 := P2 so o1
    unfold u__law_made_right_6
    simp only [dSeq, dNext, dIfS, dTest, dOp, dVar, dC, dRet, dRetN, dGet, dAnd, dOr, dNot, dAndV, dOrV, dNotV, dIf, dNil, dCons, dTup, dLst, dCB, dM0, dM1, dDrop, dAsg, dgName, dPar, dCal, dChain, dRaise, dRaise2, dFor, diSeq, items, diRange1, diRange2, dLc, dYes, dgTup, dgCons, dgNil, dSl, dPart, dNoPart, dNeg, dPenC, dPenA, dPenL, dPutA, dPutL, dgFld, dNew, dMet, dLstM, dFrz, dApp, dgIx, dAug, startD, List.map_cons, List.map_nil, List.length_cons, List.length_nil, List.replicate, Nat.reduceAdd, Nat.reduceSub, List.cons_append, List.nil_append, List.append_nil, List.set_cons_zero, List.set_cons_succ, List.getElem?_cons_zero, List.getElem?_cons_succ, dFld_eq, gIx0, gIx1, gIx2, gIx3, gIx4, lIx0, lIx1, true_and, Nat.reduceLeDiff, f_first, f_last, f_whole, f_height, f_width, f_shR, f_shA, f_row, f_column, fst_r, fst_c, lst_r, lst_c, gAdd, DL.gSub, gI0, gGt, gLe, gLt, gOrd, normT, areaT, prD]
    unfold u__law_made_right_7
    simp only [dSeq, dNext, dIfS, dTest, dOp, dVar, dC, dRet, dRetN, dGet, dAnd, dOr, dNot, dAndV, dOrV, dNotV, dIf, dNil, dCons, dTup, dLst, dCB, dM0, dM1, dDrop, dAsg, dgName, dPar, dCal, dChain, dRaise, dRaise2, dFor, diSeq, items, diRange1, diRange2, dLc, dYes, dgTup, dgCons, dgNil, dSl, dPart, dNoPart, dNeg, dPenC, dPenA, dPenL, dPutA, dPutL, dgFld, dNew, dMet, dLstM, dFrz, dApp, dgIx, dAug, startD, List.map_cons, List.map_nil, List.length_cons, List.length_nil, List.replicate, Nat.reduceAdd, Nat.reduceSub, List.cons_append, List.nil_append, List.append_nil, List.set_cons_zero, List.set_cons_succ, List.getElem?_cons_zero, List.getElem?_cons_succ, dFld_eq, gIx0, gIx1, gIx2, gIx3, gIx4, lIx0, lIx1, true_and, Nat.reduceLeDiff, f_first, f_last, f_whole, f_height, f_width, f_shR, f_shA, f_row, f_column, fst_r, fst_c, lst_r, lst_c, gAdd, DL.gSub, gI0, gGt, gLe, gLt, gOrd, normT, areaT, prD]
    have ev : nrmP ⟨y.1, u.1, y.2, u.2, sh⟩ ⟨x.1, v.1, x.2, v.2, so⟩ w = nrm x y u v w sh := nrm_swap x y u v w sh
    refine ⟨_, rfl, P1, _, rfl, P3, _, _, _, rfl, P1, .inr ⟨_, rfl, P3, fun z => absurd (z.symm.trans o2) Bool.false_ne_true, fun _ => .inl ⟨w, rfl, O.w, ?_⟩⟩⟩
    simp only [ev]
    unfold u__law_made_right_8
    simp only [dSeq, dNext, dIfS, dTest, dOp, dVar, dC, dRet, dRetN, dGet, dAnd, dOr, dNot, dAndV, dOrV, dNotV, dIf, dNil, dCons, dTup, dLst, dCB, dM0, dM1, dDrop, dAsg, dgName, dPar, dCal, dChain, dRaise, dRaise2, dFor, diSeq, items, diRange1, diRange2, dLc, dYes, dgTup, dgCons, dgNil, dSl, dPart, dNoPart, dNeg, dPenC, dPenA, dPenL, dPutA, dPutL, dgFld, dNew, dMet, dLstM, dFrz, dApp, dgIx, dAug, startD, List.map_cons, List.map_nil, List.length_cons, List.length_nil, List.replicate, Nat.reduceAdd, Nat.reduceSub, List.cons_append, List.nil_append, List.append_nil, List.set_cons_zero, List.set_cons_succ, List.getElem?_cons_zero, List.getElem?_cons_succ, dFld_eq, gIx0, gIx1, gIx2, gIx3, gIx4, lIx0, lIx1, true_and, Nat.reduceLeDiff, f_first, f_last, f_whole, f_height, f_width, f_shR, f_shA, f_row, f_column, fst_r, fst_c, lst_r, lst_c, gAdd, DL.gSub, gI0, gGt, gLe, gLt, gOrd, normT, areaT, prD]
    refine ⟨nrm x y u v w sh, rfl, shA_of s1, O.w, ?_⟩
    simp only [Bool.not_true]
    refine ⟨x, y, u, v, w, sh, rfl, O, ?_⟩
    refine eq_ar T (shA_of s1) (shA_of s1) O.w O.w ?_
    simp only [sameAr_self]
    unfold u__law_made_right_9
    have c4 : ∀ a b c d e : D, cutL [a, b, c, d, e] none (some 4) = [a, b, c, d] := fun a b c d e => cut_to [a, b, c, d, e] 4
    have P4 := P2 (some THIRD) (fun l e => by cases e; decide +kernel)
    simp only [dSeq, dNext, dIfS, dTest, dOp, dVar, dC, dRet, dRetN, dGet, dAnd, dOr, dNot, dAndV, dOrV, dNotV, dIf, dNil, dCons, dTup, dLst, dCB, dM0, dM1, dDrop, dAsg, dgName, dPar, dCal, dChain, dRaise, dRaise2, dFor, diSeq, items, diRange1, diRange2, dLc, dYes, dgTup, dgCons, dgNil, dSl, dPart, dNoPart, dNeg, dPenC, dPenA, dPenL, dPutA, dPutL, dgFld, dNew, dMet, dLstM, dFrz, dApp, dgIx, dAug, startD, List.map_cons, List.map_nil, List.length_cons, List.length_nil, List.replicate, Nat.reduceAdd, Nat.reduceSub, List.cons_append, List.nil_append, List.append_nil, List.set_cons_zero, List.set_cons_succ, List.getElem?_cons_zero, List.getElem?_cons_succ, dFld_eq, gIx0, gIx1, gIx2, gIx3, gIx4, lIx0, lIx1, true_and, Nat.reduceLeDiff, f_first, f_last, f_whole, f_height, f_width, f_shR, f_shA, f_row, f_column, fst_r, fst_c, lst_r, lst_c, gAdd, DL.gSub, gI0, gGt, gLe, gLt, gOrd, normT, areaT, prD, c4]
    refine ⟨_, rfl, P4, ODDS, rfl, by decide, by decide, by unfold lim; simp only; omega, fun od t2 hod h1 h2 => ?_⟩
    simp only at h1 h2
    have OW := odd_w hod
    unfold u__law_made_right_10
    simp only [dSeq, dNext, dIfS, dTest, dOp, dVar, dC, dRet, dRetN, dGet, dAnd, dOr, dNot, dAndV, dOrV, dNotV, dIf, dNil, dCons, dTup, dLst, dCB, dM0, dM1, dDrop, dAsg, dgName, dPar, dCal, dChain, dRaise, dRaise2, dFor, diSeq, items, diRange1, diRange2, dLc, dYes, dgTup, dgCons, dgNil, dSl, dPart, dNoPart, dNeg, dPenC, dPenA, dPenL, dPutA, dPutL, dgFld, dNew, dMet, dLstM, dFrz, dApp, dgIx, dAug, startD, List.map_cons, List.map_nil, List.length_cons, List.length_nil, List.replicate, Nat.reduceAdd, Nat.reduceSub, List.cons_append, List.nil_append, List.append_nil, List.set_cons_zero, List.set_cons_succ, List.getElem?_cons_zero, List.getElem?_cons_succ, dFld_eq, gIx0, gIx1, gIx2, gIx3, gIx4, lIx0, lIx1, true_and, Nat.reduceLeDiff, f_first, f_last, f_whole, f_height, f_width, f_shR, f_shA, f_row, f_column, fst_r, fst_c, lst_r, lst_c, gAdd, DL.gSub, gI0, gGt, gLe, gLt, gOrd, normT, areaT, prD, dLam]
    refine ⟨_, rfl, P1, _, _, _, rfl, P1, .inr ⟨_, rfl, P4, fun _ => .inl ⟨rfl, _, rfl, rfl, ?_⟩, fun z => absurd (z.symm.trans s3) (fun y => by cases y)⟩⟩
    have sT := shA_of P4.s
    refine ⟨rfl, rfl, ⟨.ref A.Address, .inr ⟨_, _, _, rfl, rfl, T.i_A⟩, T.f_A⟩, ⟨⟨x.1, v.1, x.2, v.2, some THIRD⟩, _, rfl, sT, .inl ⟨⟨x.1, v.1, x.2, v.2, some THIRD⟩, rfl, sT, ?_⟩⟩, ?_⟩
    · rw [sameA_self]
      exact ⟨rfl, rfl⟩
    simp only
    unfold u__law_made_right_11
    simp only [dSeq, dNext, dIfS, dTest, dOp, dVar, dC, dRet, dRetN, dGet, dAnd, dOr, dNot, dAndV, dOrV, dNotV, dIf, dNil, dCons, dTup, dLst, dCB, dM0, dM1, dDrop, dAsg, dgName, dPar, dCal, dChain, dRaise, dRaise2, dFor, diSeq, items, diRange1, diRange2, dLc, dYes, dgTup, dgCons, dgNil, dSl, dPart, dNoPart, dNeg, dPenC, dPenA, dPenL, dPutA, dPutL, dgFld, dNew, dMet, dLstM, dFrz, dApp, dgIx, dAug, startD, List.map_cons, List.map_nil, List.length_cons, List.length_nil, List.replicate, Nat.reduceAdd, Nat.reduceSub, List.cons_append, List.nil_append, List.append_nil, List.set_cons_zero, List.set_cons_succ, List.getElem?_cons_zero, List.getElem?_cons_succ, dFld_eq, gIx0, gIx1, gIx2, gIx3, gIx4, lIx0, lIx1, true_and, Nat.reduceLeDiff, f_first, f_last, f_whole, f_height, f_width, f_shR, f_shA, f_row, f_column, fst_r, fst_c, lst_r, lst_c, gAdd, DL.gSub, gI0, gGt, gLe, gLt, gOrd, normT, areaT, prD, dLam]
    refine ⟨_, rfl, P1, _, rfl, P3, _, _, _, rfl, P1, .inr ⟨_, rfl, P3, fun z => absurd (z.symm.trans o2) Bool.false_ne_true, fun _ => .inr ⟨OW, .inl ⟨rfl, _, rfl, rfl, ?_⟩⟩⟩⟩
    have ne : ∀ Q : D → NS → Prop, Q (.bl false) ⟨t2, μ⟩ → gNeI K A.Address (s_Address_eq A) (.tup [.str BAD, od]) (.tup [.str BAD, od]) ⟨t2, μ⟩ Q := fun Q hQ => by
      simp only [ODDS, List.mem_cons, List.not_mem_nil, or_false] at hod
      rcases hod with rfl | rfl | rfl | rfl | rfl
      all_goals exact ⟨_, _, rfl, rfl, by decide +kernel, by decide +kernel, hQ⟩
    refine ne _ ?_
    simp only
    unfold u__law_made_right_12
    simp only [dSeq, dNext, dIfS, dTest, dOp, dVar, dC, dRet, dRetN, dGet, dAnd, dOr, dNot, dAndV, dOrV, dNotV, dIf, dNil, dCons, dTup, dLst, dCB, dM0, dM1, dDrop, dAsg, dgName, dPar, dCal, dChain, dRaise, dRaise2, dFor, diSeq, items, diRange1, diRange2, dLc, dYes, dgTup, dgCons, dgNil, dSl, dPart, dNoPart, dNeg, dPenC, dPenA, dPenL, dPutA, dPutL, dgFld, dNew, dMet, dLstM, dFrz, dApp, dgIx, dAug, startD, List.map_cons, List.map_nil, List.length_cons, List.length_nil, List.replicate, Nat.reduceAdd, Nat.reduceSub, List.cons_append, List.nil_append, List.append_nil, List.set_cons_zero, List.set_cons_succ, List.getElem?_cons_zero, List.getElem?_cons_succ, dFld_eq, gIx0, gIx1, gIx2, gIx3, gIx4, lIx0, lIx1, true_and, Nat.reduceLeDiff, f_first, f_last, f_whole, f_height, f_width, f_shR, f_shA, f_row, f_column, fst_r, fst_c, lst_r, lst_c, gAdd, DL.gSub, gI0, gGt, gLe, gLt, gOrd, normT, areaT, prD, dLam]
    refine ⟨_, rfl, P1, _, _, _, rfl, P1, .inl ⟨rfl, .inl ⟨rfl, _, rfl, rfl, ?_⟩⟩⟩
    exact ⟨_, _, rfl, rfl, by decide +kernel, by decide +kernel, h t2 (by omega) (by omega)⟩
  cases hsh2 : sh with
  | none =>
    subst hsh2
    exact go none t0 s1 s2 (by omega) (by omega)
  | some l =>
    subst hsh2
    obtain ⟨a1, a2, ⟨a3, a4⟩, a5, a6⟩ := s4 l rfl
    simp only [Option.isNone, shD, gLower, gUpper]
    refine ⟨by omega, a2, by omega, a2, _, rfl, by simp, by simp, by unfold lim; simp only; omega, fun z t1 hz h1 h2 => ?_⟩
    simp only at h1 h2
    simp only [List.mem_cons, List.not_mem_nil, or_false] at hz
    rcases hz with rfl | rfl | rfl
    · exact go (some _) t1 a3 a4 h1 h2
    · exact go (some _) t1 a5 a6 h1 h2
    · exact go none t1 (fun _ z => by cases z) s2 h1 h2
end
end K17

set_option Elab.async false
set_option linter.all false
set_option maxRecDepth 100000
set_option maxHeartbeats 8000000
set_option autoImplicit false
namespace K17
open PySem PySem.Spec PyProof.Rows L2 DL
section
variable {P : Program} {K : PySem.W.Frag} {mg : Str → Option Value} {A : Ad} {cs : List Int}
def quadD (t l b r : Int) : D := .tup [.int t, .int l, .int b, .int r]
abbrev leftE (a : Ar) (h x2 x3 x4 x5 x6 x7 x8 x9 x10 : Option D) (p : Addr) (x12 x13 x14 : Option D) : DEnv := [some (normT a), h, x2, x3, x4, x5, x6, x7, x8, x9, x10, some (.ref p), x12, x13, x14]
theorem left_body {a : Ar} {h x2 x3 x4 x5 x6 x7 x8 x9 x10 x13 x14 : Option D} {p : Addr} {t l b r : Int} {acc : List D} {t0 : Nat} {μ : Addr → Option MO} {k : DEnds} (hw : a.w ≤ 2) (hl : acc.length < 100000)
    (H : ∀ y13 y14, k.nx (leftE a h x2 x3 x4 x5 x6 x7 x8 x9 x10 p (some (quadD t l b r)) y13 y14) ⟨t0, mup μ p (some (.lst (acc ++ (partOf a t l b r).map normT)))⟩) :
    l__law_left_over_2 K A cs k (leftE a h x2 x3 x4 x5 x6 x7 x8 x9 x10 p (some (quadD t l b r)) x13 x14) ⟨t0, mup μ p (some (.lst acc))⟩ := by
  have fin : ∀ w, (w = if a.w = 1 ∧ b - t + 1 = 1000000 then 1 else if a.w = 2 ∧ r - l + 1 = 18278 then 2 else 0) → ∀ y13, 
      dIfS (dAnd (dTest (dOp gLe (dOp gIx (dVar 12) (dC (.int 0))) (dOp gIx (dVar 12) (dC (.int 2))))) (dTest (dOp gLe (dOp gIx (dVar 12) (dC (.int 1))) (dOp gIx (dVar 12) (dC (.int 3)))))) (dDrop (dApp (dVar 11) (dCal 6 (s__law_bare A) (dCons (dOp gIx (dVar 12) (dC (.int 0))) (dCons (dOp gIx (dVar 12) (dC (.int 1))) (dCons (dOp gIx (dVar 12) (dC (.int 2))) (dCons (dOp gIx (dVar 12) (dC (.int 3))) (dCons (dVar 14) (dCons (dOp gIx (dVar 0) (dC (.int 3))) dNil))))))))) dNext k (leftE a h x2 x3 x4 x5 x6 x7 x8 x9 x10 p (some (quadD t l b r)) y13 (some (whD w))) ⟨t0, mup μ p (some (.lst acc))⟩ := by
    intro w ew y13
    have H := H y13 (some (whD w))
    unfold partOf at H
    rw [← ew] at H
    unfold leftE quadD at *
    simp only [dSeq, dNext, dIfS, dTest, dOp, dVar, dC, dRet, dRetN, dGet, dAnd, dOr, dNot, dAndV, dOrV, dNotV, dIf, dNil, dCons, dTup, dLst, dCB, dM0, dM1, dDrop, dAsg, dgName, dPar, dCal, dChain, dRaise, dRaise2, dFor, diSeq, items, diRange1, diRange2, dLc, dYes, dgTup, dgCons, dgNil, dSl, dPart, dNoPart, dNeg, dPenC, dPenA, dPenL, dPutA, dPutL, dgFld, dNew, dMet, dLstM, dFrz, dApp, dgIx, dAug, startD, List.map_cons, List.map_nil, List.length_cons, List.length_nil, List.replicate, Nat.reduceAdd, Nat.reduceSub, List.cons_append, List.nil_append, List.append_nil, List.set_cons_zero, List.set_cons_succ, List.getElem?_cons_zero, List.getElem?_cons_succ, dFld_eq, gIx0, gIx1, gIx2, gIx3, gIx4, lIx0, lIx1, true_and, Nat.reduceLeDiff, f_first, f_last, f_whole, f_height, f_width, f_shR, f_shA, f_row, f_column, fst_r, fst_c, lst_r, lst_c, gAdd, DL.gSub, gI0, gGt, gLe, gLt, gOrd, normT, areaT, prD]
    by_cases c1 : b < t
    · rw [if_pos (.inl c1)] at H
      simp only [decide_eq_false (show ¬ t ≤ b by omega)]
      simp only [List.map_nil, List.append_nil] at H
      exact H
    simp only [decide_eq_true (show t ≤ b by omega)]
    by_cases c2 : r < l
    · rw [if_pos (.inr c2)] at H
      simp only [decide_eq_false (show ¬ l ≤ r by omega)]
      simp only [List.map_nil, List.append_nil] at H
      exact H
    rw [if_neg (fun z => z.elim c1 c2)] at H
    simp only [decide_eq_true (show l ≤ r by omega)]
    refine ⟨p, rfl, ⟨_, mup_same⟩, t, l, b, r, w, a.sh, rfl, acc, mup_same, hl, ?_⟩
    simp only [mup_mup]
    exact H
  unfold l__law_left_over_2
  unfold leftE quadD at *
  simp only [dSeq, dNext, dIfS, dTest, dOp, dVar, dC, dRet, dRetN, dGet, dAnd, dOr, dNot, dAndV, dOrV, dNotV, dIf, dNil, dCons, dTup, dLst, dCB, dM0, dM1, dDrop, dAsg, dgName, dPar, dCal, dChain, dRaise, dRaise2, dFor, diSeq, items, diRange1, diRange2, dLc, dYes, dgTup, dgCons, dgNil, dSl, dPart, dNoPart, dNeg, dPenC, dPenA, dPenL, dPutA, dPutL, dgFld, dNew, dMet, dLstM, dFrz, dApp, dgIx, dAug, startD, List.map_cons, List.map_nil, List.length_cons, List.length_nil, List.replicate, Nat.reduceAdd, Nat.reduceSub, List.cons_append, List.nil_append, List.append_nil, List.set_cons_zero, List.set_cons_succ, List.getElem?_cons_zero, List.getElem?_cons_succ, dFld_eq, gIx0, gIx1, gIx2, gIx3, gIx4, lIx0, lIx1, true_and, Nat.reduceLeDiff, f_first, f_last, f_whole, f_height, f_width, f_shR, f_shA, f_row, f_column, fst_r, fst_c, lst_r, lst_c, gAdd, DL.gSub, gI0, gGt, gLe, gLt, gOrd, normT, areaT, prD, gNotN] at fin ⊢
  rcases w3 hw with e0 | e0 | e0
  · rw [e0] at fin ⊢
    simp only [whD, gEq, eqD, scEq, isNon, Bool.not_true, true_and] at fin ⊢
    exact fin 0 (by first | rfl | ((repeat' split) <;> omega)) _
  · rw [e0] at fin ⊢
    have x1 : COLS = [99, 111, 108, 117, 109, 110, 115] := rfl
    simp only [whD, gEq, eqD, scEq, isNon, decide_eq_true x1, Bool.not_false, true_and] at fin ⊢
    by_cases c3 : b - t = 999999
    · simp only [decide_eq_true c3]
      exact fin 1 (by first | rfl | ((repeat' split) <;> omega)) _
    · simp only [decide_eq_false c3]
      exact fin 0 (by first | rfl | ((repeat' split) <;> omega)) _
  · rw [e0] at fin ⊢
    have x1 : ¬ ROWS = [99, 111, 108, 117, 109, 110, 115] := by decide
    simp only [whD, gEq, eqD, scEq, isNon, decide_eq_false x1, Bool.not_false, true_and] at fin ⊢
    by_cases c3 : r - l = 18277
    · simp only [decide_eq_true c3]
      exact fin 2 (by first | rfl | ((repeat' split) <;> omega)) _
    · simp only [decide_eq_false c3]
      exact fin 0 (by first | rfl | ((repeat' split) <;> omega)) _
theorem left_loop {a : Ar} {h x2 x3 x4 x5 x6 x7 x8 x9 x10 : Option D} {p : Addr} {t0 : Nat} {μ : Addr → Option MO} {k : DEnds} (hw : a.w ≤ 2) : ∀ (qs : List (Int × Int × Int × Int)) (acc : List D) (x12 x13 x14 : Option D), acc.length + qs.length < 100000 →
    (∀ y12 y13 y14, k.nx (leftE a h x2 x3 x4 x5 x6 x7 x8 x9 x10 p y12 y13 y14) ⟨t0, mup μ p (some (.lst (acc ++ qs.flatMap fun z => (partOf a z.1 z.2.1 z.2.2.1 z.2.2.2).map normT)))⟩) →
    dForL (dgName 12) (l__law_left_over_2 K A cs) (qs.map fun z => quadD z.1 z.2.1 z.2.2.1 z.2.2.2) k (leftE a h x2 x3 x4 x5 x6 x7 x8 x9 x10 p x12 x13 x14) ⟨t0, mup μ p (some (.lst acc))⟩
  | [], acc, x12, x13, x14, hl, H => by
    have := H x12 x13 x14
    rw [List.flatMap_nil, List.append_nil] at this
    exact this
  | (t, l, b, r) :: qs, acc, x12, x13, x14, hl, H => by
    rw [List.length_cons] at hl
    refine left_body (K := K) (cs := cs) hw (by omega) fun y13 y14 => ?_
    refine left_loop hw qs _ _ _ _ ?_ fun z12 z13 z14 => ?_
    · have := partLen a t l b r
      simp only [List.length_append, List.length_map]
      omega
    · rw [List.append_assoc]
      exact H z12 z13 z14
theorem p__law_left_over (ds : List D) (n : NS) (q : D → NS → Prop) (e : DY) (hl : ds.length = 2) (h : s__law_left_over A ds n q e) : t__law_left_over K A cs { nx := fun _ n' => q .non n', rt := q, ex := fun _ => e } (startD N__law_left_over ds) n := by
  obtain ⟨t0, μ⟩ := n
  obtain ⟨a, c, rfl, hw, hc, h⟩ := h
  unfold t__law_left_over
  simp only [dForg, dSeq, dNext, dIfS, dTest, dOp, dVar, dC, dRet, dRetN, dGet, dAnd, dOr, dNot, dAndV, dOrV, dNotV, dIf, dNil, dCons, dTup, dLst, dCB, dM0, dM1, dDrop, dAsg, dgName, dPar, dCal, dChain, dRaise, dRaise2, dFor, diSeq, items, diRange1, diRange2, dLc, dYes, dgTup, dgCons, dgNil, dSl, dPart, dNoPart, dNeg, dPenC, dPenA, dPenL, dPutA, dPutL, dgFld, dNew, dMet, dLstM, dFrz, dApp, dgIx, dAug, startD, List.map_cons, List.map_nil, List.length_cons, List.length_nil, List.replicate, Nat.reduceAdd, Nat.reduceSub, List.cons_append, List.nil_append, List.append_nil, List.set_cons_zero, List.set_cons_succ, List.getElem?_cons_zero, List.getElem?_cons_succ, dFld_eq, gIx0, gIx1, gIx2, gIx3, gIx4, lIx0, lIx1, true_and, Nat.reduceLeDiff, f_first, f_last, f_whole, f_height, f_width, f_shR, f_shA, f_row, f_column, fst_r, fst_c, lst_r, lst_c, gAdd, DL.gSub, gI0, gGt, gLe, gLt, gOrd, normT, areaT, prD]
  unfold u__law_left_over_2
  simp only [dSeq, dNext, dIfS, dTest, dOp, dVar, dC, dRet, dRetN, dGet, dAnd, dOr, dNot, dAndV, dOrV, dNotV, dIf, dNil, dCons, dTup, dLst, dCB, dM0, dM1, dDrop, dAsg, dgName, dPar, dCal, dChain, dRaise, dRaise2, dFor, diSeq, items, diRange1, diRange2, dLc, dYes, dgTup, dgCons, dgNil, dSl, dPart, dNoPart, dNeg, dPenC, dPenA, dPenL, dPutA, dPutL, dgFld, dNew, dMet, dLstM, dFrz, dApp, dgIx, dAug, startD, List.map_cons, List.map_nil, List.length_cons, List.length_nil, List.replicate, Nat.reduceAdd, Nat.reduceSub, List.cons_append, List.nil_append, List.append_nil, List.set_cons_zero, List.set_cons_succ, List.getElem?_cons_zero, List.getElem?_cons_succ, dFld_eq, gIx0, gIx1, gIx2, gIx3, gIx4, lIx0, lIx1, true_and, Nat.reduceLeDiff, f_first, f_last, f_whole, f_height, f_width, f_shR, f_shA, f_row, f_column, fst_r, fst_c, lst_r, lst_c, gAdd, DL.gSub, gI0, gGt, gLe, gLt, gOrd, normT, areaT, prD]
  unfold u__law_left_over_3
  simp only [dSeq, dNext, dIfS, dTest, dOp, dVar, dC, dRet, dRetN, dGet, dAnd, dOr, dNot, dAndV, dOrV, dNotV, dIf, dNil, dCons, dTup, dLst, dCB, dM0, dM1, dDrop, dAsg, dgName, dPar, dCal, dChain, dRaise, dRaise2, dFor, diSeq, items, diRange1, diRange2, dLc, dYes, dgTup, dgCons, dgNil, dSl, dPart, dNoPart, dNeg, dPenC, dPenA, dPenL, dPutA, dPutL, dgFld, dNew, dMet, dLstM, dFrz, dApp, dgIx, dAug, startD, List.map_cons, List.map_nil, List.length_cons, List.length_nil, List.replicate, Nat.reduceAdd, Nat.reduceSub, List.cons_append, List.nil_append, List.append_nil, List.set_cons_zero, List.set_cons_succ, List.getElem?_cons_zero, List.getElem?_cons_succ, dFld_eq, gIx0, gIx1, gIx2, gIx3, gIx4, lIx0, lIx1, true_and, Nat.reduceLeDiff, f_first, f_last, f_whole, f_height, f_width, f_shR, f_shA, f_row, f_column, fst_r, fst_c, lst_r, lst_c, gAdd, DL.gSub, gI0, gGt, gLe, gLt, gOrd, normT, areaT, prD, gNotN]
  have go : ∀ (qs : List (Int × Int × Int × Int)) (x7 x8 x9 x10 : Option D), qs.length ≤ 4 → q (.lst (qs.flatMap fun z => (partOf a z.1 z.2.1 z.2.2.1 z.2.2.2).map normT)) ⟨t0, μ⟩ → u__law_left_over_4 K A cs { nx := fun x n' => ∃ n2, NS.Sub n2 n' ∧ q .non n2, rt := fun d n' => ∃ n2, NS.Sub n2 n' ∧ q d n2, ex := fun δ' C ns xs n' => ∃ n2, NS.Sub n2 n' ∧ e C ns xs n2 }
      [some (normT a), some (normO c), some (.int a.t.1), some (.int a.b.1), some (.int a.l.1), some (.int a.r.1), some (.lst (qs.map fun z => quadD z.1 z.2.1 z.2.2.1 z.2.2.2)), x7, x8, x9, x10, none, none, none, none] ⟨t0, μ⟩ := fun qs x7 x8 x9 x10 hq hh => by
    unfold u__law_left_over_4
    simp only [dSeq, dNext, dIfS, dTest, dOp, dVar, dC, dRet, dRetN, dGet, dAnd, dOr, dNot, dAndV, dOrV, dNotV, dIf, dNil, dCons, dTup, dLst, dCB, dM0, dM1, dDrop, dAsg, dgName, dPar, dCal, dChain, dRaise, dRaise2, dFor, diSeq, items, diRange1, diRange2, dLc, dYes, dgTup, dgCons, dgNil, dSl, dPart, dNoPart, dNeg, dPenC, dPenA, dPenL, dPutA, dPutL, dgFld, dNew, dMet, dLstM, dFrz, dApp, dgIx, dAug, startD, List.map_cons, List.map_nil, List.length_cons, List.length_nil, List.replicate, Nat.reduceAdd, Nat.reduceSub, List.cons_append, List.nil_append, List.append_nil, List.set_cons_zero, List.set_cons_succ, List.getElem?_cons_zero, List.getElem?_cons_succ, dFld_eq, gIx0, gIx1, gIx2, gIx3, gIx4, lIx0, lIx1, true_and, Nat.reduceLeDiff, f_first, f_last, f_whole, f_height, f_width, f_shR, f_shA, f_row, f_column, fst_r, fst_c, lst_r, lst_c, gAdd, DL.gSub, gI0, gGt, gLe, gLt, gOrd, normT, areaT, prD]
    intro p hp
    unfold u__law_left_over_5
    simp only [dSeq, dNext, dIfS, dTest, dOp, dVar, dC, dRet, dRetN, dGet, dAnd, dOr, dNot, dAndV, dOrV, dNotV, dIf, dNil, dCons, dTup, dLst, dCB, dM0, dM1, dDrop, dAsg, dgName, dPar, dCal, dChain, dRaise, dRaise2, dFor, diSeq, items, diRange1, diRange2, dLc, dYes, dgTup, dgCons, dgNil, dSl, dPart, dNoPart, dNeg, dPenC, dPenA, dPenL, dPutA, dPutL, dgFld, dNew, dMet, dLstM, dFrz, dApp, dgIx, dAug, startD, List.map_cons, List.map_nil, List.length_cons, List.length_nil, List.replicate, Nat.reduceAdd, Nat.reduceSub, List.cons_append, List.nil_append, List.append_nil, List.set_cons_zero, List.set_cons_succ, List.getElem?_cons_zero, List.getElem?_cons_succ, dFld_eq, gIx0, gIx1, gIx2, gIx3, gIx4, lIx0, lIx1, true_and, Nat.reduceLeDiff, f_first, f_last, f_whole, f_height, f_width, f_shR, f_shA, f_row, f_column, fst_r, fst_c, lst_r, lst_c, gAdd, DL.gSub, gI0, gGt, gLe, gLt, gOrd, normT, areaT, prD]
    refine left_loop (a := a) hw qs [] none none none (by simp; omega) fun y12 y13 y14 => ?_
    unfold u__law_left_over_6
    simp only [dSeq, dNext, dIfS, dTest, dOp, dVar, dC, dRet, dRetN, dGet, dAnd, dOr, dNot, dAndV, dOrV, dNotV, dIf, dNil, dCons, dTup, dLst, dCB, dM0, dM1, dDrop, dAsg, dgName, dPar, dCal, dChain, dRaise, dRaise2, dFor, diSeq, items, diRange1, diRange2, dLc, dYes, dgTup, dgCons, dgNil, dSl, dPart, dNoPart, dNeg, dPenC, dPenA, dPenL, dPutA, dPutL, dgFld, dNew, dMet, dLstM, dFrz, dApp, dgIx, dAug, startD, List.map_cons, List.map_nil, List.length_cons, List.length_nil, List.replicate, Nat.reduceAdd, Nat.reduceSub, List.cons_append, List.nil_append, List.append_nil, List.set_cons_zero, List.set_cons_succ, List.getElem?_cons_zero, List.getElem?_cons_succ, dFld_eq, gIx0, gIx1, gIx2, gIx3, gIx4, lIx0, lIx1, true_and, Nat.reduceLeDiff, f_first, f_last, f_whole, f_height, f_width, f_shR, f_shA, f_row, f_column, fst_r, fst_c, lst_r, lst_c, gAdd, DL.gSub, gI0, gGt, gLe, gLt, gOrd, normT, areaT, prD]
    refine ⟨p, _, _, rfl, mup_same, rfl, ⟨t0, μ⟩, ?_, ?_⟩
    · rw [mup_mup, mup_back hp]
      exact NS.Sub.refl _
    · exact hh
  unfold partsOf at h
  cases c with
  | none =>
    simp only [normO, isNon]
    exact go [(a.t.1, a.l.1, a.b.1, a.r.1)] none none none none (by simp) (by simpa using h)
  | some c =>
    simp only [normO, f_first, f_last, f_whole, f_height, f_width, f_shR, f_shA, f_row, f_column, fst_r, fst_c, lst_r, lst_c, gAdd, DL.gSub, gI0, gGt, gLe, gLt, gOrd, normT, areaT, prD, isNon, Bool.not_false, dSeq, dNext, dIfS, dTest, dOp, dVar, dC, dRet, dRetN, dGet, dAnd, dOr, dNot, dAndV, dOrV, dNotV, dIf, dNil, dCons, dTup, dLst, dCB, dM0, dM1, dDrop, dAsg, dgName, dPar, dCal, dChain, dRaise, dRaise2, dFor, diSeq, items, diRange1, diRange2, dLc, dYes, dgTup, dgCons, dgNil, dSl, dPart, dNoPart, dNeg, dPenC, dPenA, dPenL, dPutA, dPutL, dgFld, dNew, dMet, dLstM, dFrz, dApp, dgIx, dAug, startD, List.map_cons, List.map_nil, List.length_cons, List.length_nil, List.replicate, Nat.reduceAdd, Nat.reduceSub, List.cons_append, List.nil_append, List.append_nil, List.set_cons_zero, List.set_cons_succ, List.getElem?_cons_zero, List.getElem?_cons_succ, dFld_eq, gIx0, gIx1, gIx2, gIx3, gIx4, lIx0, lIx1, true_and, Nat.reduceLeDiff]
    refine go [(a.t.1, a.l.1, c.t.1 - 1, a.r.1), (c.b.1 + 1, a.l.1, a.b.1, a.r.1), (c.t.1, a.l.1, c.b.1, c.l.1 - 1), (c.t.1, c.r.1 + 1, c.b.1, a.r.1)] _ _ _ _ (by simp) ?_
    simp only [List.map_append] at h
    simpa using h
end
end K17

set_option Elab.async false
set_option linter.all false
set_option maxRecDepth 100000
set_option maxHeartbeats 8000000
set_option autoImplicit false
namespace K17
open PySem PySem.Spec PyProof.Rows L2 DL
theorem partOf_ok {a c : Ar} {t l b r : Int} (ha : ArN a) (h : c ∈ partOf a t l b r) : c.w ≤ 2 ∧ c.sh = a.sh := by
  unfold partOf at h
  split at h
  · cases h
  · rw [List.mem_singleton] at h
    subst h
    refine ⟨?_, rfl⟩
    simp only [bareAr]
    (repeat' split) <;> omega
theorem partsOf_ok {a c : Ar} {h : Option Ar} (ha : ArN a) (hc : c ∈ partsOf a h) : c.w ≤ 2 ∧ c.sh = a.sh := by
  unfold partsOf at hc
  cases h with
  | none => exact partOf_ok ha hc
  | some h =>
    simp only [List.mem_append] at hc
    rcases hc with ((hc | hc) | hc) | hc <;> exact partOf_ok ha hc
theorem okB : PyData.strOk (DL.S BAD) = true := strOk_S (by unfold ascii; decide)
theorem shaped_t {a : Ar} (h : a.w ≤ 2) (hs : shA a.sh) : SeqAt.shaped (.tuple [.str (DL.S BAD), py4 a]) = true := by
  unfold py4 pyPr
  cases z : a.sh with
  | none => rcases w3 h with e | e | e <;> rw [e] <;> simp only [pySh, pyW, SeqAt.shaped, PyData.canLay0, PyData.canLayAll0, okC, okR, okB, PyData.depth, PyData.depthAll] <;> rfl
  | some l =>
    have o := strOk_S (hs l z).1
    rcases w3 h with e | e | e <;> rw [e] <;> simp only [pySh, pyW, SeqAt.shaped, PyData.canLay0, PyData.canLayAll0, o, okC, okR, okB, PyData.depth, PyData.depthAll] <;> rfl
section
variable {P : Program} {K : PySem.W.Frag} {mg : Str → Option Value} {A : Ad} {cs : List Int}
theorem pair_loop (T : Txt P K mg A) {ps : List Ar} {k : DEnds} {n : NS} {x0 x1 x2 x3 x4 x5 x6 : Option D} (hp : ∀ c ∈ ps, c.w ≤ 2 ∧ shA c.sh) : ∀ (m i : Nat) (y : Option D), i + m = ps.length → (∀ y, k.nx [x0, x1, x2, x3, x4, x5, x6, some (.lst (ps.map normT)), some (.tup (ps.map (areaD A))), y] n) →
    dForL (dgName 9) (l__law_pair_right_2 K A cs) (rangeD (i : Nat) m) k [x0, x1, x2, x3, x4, x5, x6, some (.lst (ps.map normT)), some (.tup (ps.map (areaD A))), y] n
  | 0, i, y, e, H => H y
  | m + 1, i, y, e, H => by
    have er : rangeD (i : Nat) (m + 1) = .int (i : Nat) :: rangeD ((i + 1 : Nat) : Int) m := by
      unfold rangeD
      rw [List.range_succ_eq_map, List.map_cons, List.map_map]
      simp only [Int.natCast_zero, Int.add_zero, List.cons.injEq, true_and]
      refine List.map_congr_left fun x _ => ?_
      simp only [Function.comp, D.int.injEq]
      omega
    rw [er]
    obtain ⟨c, hc⟩ : ∃ c, ps[i]? = some c := ⟨ps[i], List.getElem?_eq_getElem (by omega)⟩
    have hc2 := (List.getElem?_eq_some_iff.mp hc).2
    obtain ⟨w, s⟩ := hp c (List.mem_of_getElem? hc)
    have a1 : atI (ps.map normT) (i : Nat) = some (normT c) := by rw [atI_nat (by rw [List.length_map]; omega), List.getElem_map, hc2]
    have a2 : atI (ps.map (areaD A)) (i : Nat) = some (areaD A c) := by rw [atI_nat (by rw [List.length_map]; omega), List.getElem_map, hc2]
    unfold l__law_pair_right_2
    simp only [dForL, dgName, dSeq, dNext, dIfS, dTest, dOp, dVar, dC, dRet, dRetN, dGet, dAnd, dOr, dNot, dAndV, dOrV, dNotV, dIf, dNil, dCons, dTup, dLst, dCB, dM0, dM1, dDrop, dAsg, dgName, dPar, dCal, dChain, dRaise, dRaise2, dFor, diSeq, items, diRange1, diRange2, dLc, dYes, dgTup, dgCons, dgNil, dSl, dPart, dNoPart, dNeg, dPenC, dPenA, dPenL, dPutA, dPutL, dgFld, dNew, dMet, dLstM, dFrz, dApp, dgIx, dAug, startD, List.map_cons, List.map_nil, List.length_cons, List.length_nil, List.replicate, Nat.reduceAdd, Nat.reduceSub, List.cons_append, List.nil_append, List.append_nil, List.set_cons_zero, List.set_cons_succ, List.getElem?_cons_zero, List.getElem?_cons_succ, dFld_eq, gIx0, gIx1, gIx2, gIx3, gIx4, lIx0, lIx1, true_and, Nat.reduceLeDiff]
    refine ⟨_, a2, _, a1, c, rfl, s, w, ?_⟩
    exact pair_loop T hp m (i + 1) (some (.int (i : Nat))) (by omega) H
theorem bl_eqO {C : Addr} {sp : DSp} {neg b b' : Bool} {Q : D → NS → Prop} {n : NS} (h : Q (.bl (if neg then !(decide (b = b')) else decide (b = b'))) n) : gEqO K C sp neg (.bl b) (.bl b') n Q := h
theorem int_eqO {C : Addr} {sp : DSp} {neg : Bool} {i j : Int} {Q : D → NS → Prop} {n : NS} (h : Q (.bl (if neg then !(decide (i = j)) else decide (i = j))) n) : gEqO K C sp neg (.int i) (.int j) n Q := h
theorem p__law_pair_right (T : Txt P K mg A) (ds : List D) (n : NS) (q : D → NS → Prop) (e : DY) (hl : ds.length = 3) (h : s__law_pair_right A ds n q e) : t__law_pair_right K A cs { nx := fun _ n' => q .non n', rt := q, ex := fun _ => e } (startD N__law_pair_right ds) n := by
  obtain ⟨x, y, u, v, w, sh, x', y', u', v', w', sh', rfl, O, O', h⟩ := h
  have N := nrm_N O
  have N' := nrm_N O'
  have S := shA_of O.s
  have S' := shA_of O'.s
  unfold t__law_pair_right
  simp only [dSeq, dNext, dIfS, dTest, dOp, dVar, dC, dRet, dRetN, dGet, dAnd, dOr, dNot, dAndV, dOrV, dNotV, dIf, dNil, dCons, dTup, dLst, dCB, dM0, dM1, dDrop, dAsg, dgName, dPar, dCal, dChain, dRaise, dRaise2, dFor, diSeq, items, diRange1, diRange2, dLc, dYes, dgTup, dgCons, dgNil, dSl, dPart, dNoPart, dNeg, dPenC, dPenA, dPenL, dPutA, dPutL, dgFld, dNew, dMet, dLstM, dFrz, dApp, dgIx, dAug, startD, List.map_cons, List.map_nil, List.length_cons, List.length_nil, List.replicate, Nat.reduceAdd, Nat.reduceSub, List.cons_append, List.nil_append, List.append_nil, List.set_cons_zero, List.set_cons_succ, List.getElem?_cons_zero, List.getElem?_cons_succ, dFld_eq, gIx0, gIx1, gIx2, gIx3, gIx4, lIx0, lIx1, true_and, Nat.reduceLeDiff, f_first, f_last, f_whole, f_height, f_width, f_shR, f_shA, f_row, f_column, fst_r, fst_c, lst_r, lst_c, gAdd, DL.gSub, gI0, gGt, gLe, gLt, gOrd, normT, areaT, prD]
  refine ⟨x, y, u, v, w, sh, rfl, O, x', y', u', v', w', sh', rfl, O', ?_⟩
  unfold u__law_pair_right_2
  simp only [dSeq, dNext, dIfS, dTest, dOp, dVar, dC, dRet, dRetN, dGet, dAnd, dOr, dNot, dAndV, dOrV, dNotV, dIf, dNil, dCons, dTup, dLst, dCB, dM0, dM1, dDrop, dAsg, dgName, dPar, dCal, dChain, dRaise, dRaise2, dFor, diSeq, items, diRange1, diRange2, dLc, dYes, dgTup, dgCons, dgNil, dSl, dPart, dNoPart, dNeg, dPenC, dPenA, dPenL, dPutA, dPutL, dgFld, dNew, dMet, dLstM, dFrz, dApp, dgIx, dAug, startD, List.map_cons, List.map_nil, List.length_cons, List.length_nil, List.replicate, Nat.reduceAdd, Nat.reduceSub, List.cons_append, List.nil_append, List.append_nil, List.set_cons_zero, List.set_cons_succ, List.getElem?_cons_zero, List.getElem?_cons_succ, dFld_eq, gIx0, gIx1, gIx2, gIx3, gIx4, lIx0, lIx1, true_and, Nat.reduceLeDiff, f_first, f_last, f_whole, f_height, f_width, f_shR, f_shA, f_row, f_column, fst_r, fst_c, lst_r, lst_c, gAdd, DL.gSub, gI0, gGt, gLe, gLt, gOrd, normT, areaT, prD]
  refine ⟨x, y, u, v, w, sh, rfl, O.w, x', y', u', v', w', sh', rfl, O'.w, ?_⟩
  generalize eA : nrm x y u v w sh = a at N
  have eS : a.sh = sh := by rw [← eA]; rfl
  generalize eB : nrm x' y' u' v' w' sh' = b at N'
  have eS' : b.sh = sh' := by rw [← eB]; rfl
  rw [← eS] at S
  rw [← eS'] at S'
  unfold u__law_pair_right_3
  simp only [dSeq, dNext, dIfS, dTest, dOp, dVar, dC, dRet, dRetN, dGet, dAnd, dOr, dNot, dAndV, dOrV, dNotV, dIf, dNil, dCons, dTup, dLst, dCB, dM0, dM1, dDrop, dAsg, dgName, dPar, dCal, dChain, dRaise, dRaise2, dFor, diSeq, items, diRange1, diRange2, dLc, dYes, dgTup, dgCons, dgNil, dSl, dPart, dNoPart, dNeg, dPenC, dPenA, dPenL, dPutA, dPutL, dgFld, dNew, dMet, dLstM, dFrz, dApp, dgIx, dAug, startD, List.map_cons, List.map_nil, List.length_cons, List.length_nil, List.replicate, Nat.reduceAdd, Nat.reduceSub, List.cons_append, List.nil_append, List.append_nil, List.set_cons_zero, List.set_cons_succ, List.getElem?_cons_zero, List.getElem?_cons_succ, dFld_eq, gIx0, gIx1, gIx2, gIx3, gIx4, lIx0, lIx1, true_and, Nat.reduceLeDiff]
  refine eq_ar T S S' N.w N'.w ?_
  refine ⟨a, b, rfl, N, N', bl_eqO ?_⟩
  simp only [if_pos, if_neg, Bool.false_eq_true, if_false, if_true, decide_true, Bool.not_true]
  refine eq_ar T S S' N.w N'.w ?_
  refine ⟨a, b, rfl, N, N', bl_eqO ?_⟩
  have e2 : decide ((!sameAr a b) = sameAr a b) = false := by cases sameAr a b <;> rfl
  simp only [if_pos, if_neg, Bool.false_eq_true, if_false, if_true, e2]
  unfold u__law_pair_right_4
  simp only [dSeq, dNext, dIfS, dTest, dOp, dVar, dC, dRet, dRetN, dGet, dAnd, dOr, dNot, dAndV, dOrV, dNotV, dIf, dNil, dCons, dTup, dLst, dCB, dM0, dM1, dDrop, dAsg, dgName, dPar, dCal, dChain, dRaise, dRaise2, dFor, diSeq, items, diRange1, diRange2, dLc, dYes, dgTup, dgCons, dgNil, dSl, dPart, dNoPart, dNeg, dPenC, dPenA, dPenL, dPutA, dPutL, dgFld, dNew, dMet, dLstM, dFrz, dApp, dgIx, dAug, startD, List.map_cons, List.map_nil, List.length_cons, List.length_nil, List.replicate, Nat.reduceAdd, Nat.reduceSub, List.cons_append, List.nil_append, List.append_nil, List.set_cons_zero, List.set_cons_succ, List.getElem?_cons_zero, List.getElem?_cons_succ, dFld_eq, gIx0, gIx1, gIx2, gIx3, gIx4, lIx0, lIx1, true_and, Nat.reduceLeDiff]
  refine ⟨a, b, rfl, N, N', rfl, by decide, a, _, rfl, N, .inl ⟨b, rfl, N', ?_⟩⟩
  unfold u__law_pair_right_5
  simp only [dSeq, dNext, dIfS, dTest, dOp, dVar, dC, dRet, dRetN, dGet, dAnd, dOr, dNot, dAndV, dOrV, dNotV, dIf, dNil, dCons, dTup, dLst, dCB, dM0, dM1, dDrop, dAsg, dgName, dPar, dCal, dChain, dRaise, dRaise2, dFor, diSeq, items, diRange1, diRange2, dLc, dYes, dgTup, dgCons, dgNil, dSl, dPart, dNoPart, dNeg, dPenC, dPenA, dPenL, dPutA, dPutL, dgFld, dNew, dMet, dLstM, dFrz, dApp, dgIx, dAug, startD, List.map_cons, List.map_nil, List.length_cons, List.length_nil, List.replicate, Nat.reduceAdd, Nat.reduceSub, List.cons_append, List.nil_append, List.append_nil, List.set_cons_zero, List.set_cons_succ, List.getElem?_cons_zero, List.getElem?_cons_succ, dFld_eq, gIx0, gIx1, gIx2, gIx3, gIx4, lIx0, lIx1, true_and, Nat.reduceLeDiff, gIsN, gNotN]
  have sN := @sharedN a b
  generalize eC : shared a b = c at sN
  have go : u__law_pair_right_6 K A cs { nx := fun x n' => q .non n', rt := q, ex := fun x => e } [some .pen, some (normT a), some (normT b), some (areaD A a), some (areaD A b), some (normO c), some (areaO A c), none, none, none] n := by
    unfold u__law_pair_right_6
    simp only [dSeq, dNext, dIfS, dTest, dOp, dVar, dC, dRet, dRetN, dGet, dAnd, dOr, dNot, dAndV, dOrV, dNotV, dIf, dNil, dCons, dTup, dLst, dCB, dM0, dM1, dDrop, dAsg, dgName, dPar, dCal, dChain, dRaise, dRaise2, dFor, diSeq, items, diRange1, diRange2, dLc, dYes, dgTup, dgCons, dgNil, dSl, dPart, dNoPart, dNeg, dPenC, dPenA, dPenL, dPutA, dPutL, dgFld, dNew, dMet, dLstM, dFrz, dApp, dgIx, dAug, startD, List.map_cons, List.map_nil, List.length_cons, List.length_nil, List.replicate, Nat.reduceAdd, Nat.reduceSub, List.cons_append, List.nil_append, List.append_nil, List.set_cons_zero, List.set_cons_succ, List.getElem?_cons_zero, List.getElem?_cons_succ, dFld_eq, gIx0, gIx1, gIx2, gIx3, gIx4, lIx0, lIx1, true_and, Nat.reduceLeDiff]
    refine ⟨a, c, rfl, N.w, fun x z => (sN N N' z).1.w, rfl, by decide, a, b, rfl, N, N', ?_⟩
    rw [eC]
    have hp : ∀ d ∈ partsOf a c, d.w ≤ 2 ∧ shA d.sh := fun d hd => by
      obtain ⟨p1, p2⟩ := partsOf_ok N hd
      exact ⟨p1, by rw [p2]; exact S⟩
    unfold u__law_pair_right_7
    simp only [dSeq, dNext, dIfS, dTest, dOp, dVar, dC, dRet, dRetN, dGet, dAnd, dOr, dNot, dAndV, dOrV, dNotV, dIf, dNil, dCons, dTup, dLst, dCB, dM0, dM1, dDrop, dAsg, dgName, dPar, dCal, dChain, dRaise, dRaise2, dFor, diSeq, items, diRange1, diRange2, dLc, dYes, dgTup, dgCons, dgNil, dSl, dPart, dNoPart, dNeg, dPenC, dPenA, dPenL, dPutA, dPutL, dgFld, dNew, dMet, dLstM, dFrz, dApp, dgIx, dAug, startD, List.map_cons, List.map_nil, List.length_cons, List.length_nil, List.replicate, Nat.reduceAdd, Nat.reduceSub, List.cons_append, List.nil_append, List.append_nil, List.set_cons_zero, List.set_cons_succ, List.getElem?_cons_zero, List.getElem?_cons_succ, dFld_eq, gIx0, gIx1, gIx2, gIx3, gIx4, lIx0, lIx1, true_and, Nat.reduceLeDiff, gIsi, isiD, kindD, kit_int_int, kit_int_bool, kit_int_str, kit_int_list, kit_int_tuple, kit_bool_int, kit_bool_bool, kit_bool_str, kit_bool_list, kit_bool_tuple, kit_str_int, kit_str_bool, kit_str_str, kit_str_list, kit_str_tuple, kit_non_int, kit_non_bool, kit_non_str, kit_non_list, kit_non_tuple, kit_list_int, kit_list_bool, kit_list_str, kit_list_list, kit_list_tuple, kit_tuple_int, kit_tuple_bool, kit_tuple_str, kit_tuple_list, kit_tuple_tuple, gLen, Bool.not_true]
    refine int_eqO ?_
    simp only [List.length_map, decide_true, Bool.not_true, if_true]
    unfold u__law_pair_right_8
    simp only [dSeq, dNext, dIfS, dTest, dOp, dVar, dC, dRet, dRetN, dGet, dAnd, dOr, dNot, dAndV, dOrV, dNotV, dIf, dNil, dCons, dTup, dLst, dCB, dM0, dM1, dDrop, dAsg, dgName, dPar, dCal, dChain, dRaise, dRaise2, dFor, diSeq, items, diRange1, diRange2, dLc, dYes, dgTup, dgCons, dgNil, dSl, dPart, dNoPart, dNeg, dPenC, dPenA, dPenL, dPutA, dPutL, dgFld, dNew, dMet, dLstM, dFrz, dApp, dgIx, dAug, startD, List.map_cons, List.map_nil, List.length_cons, List.length_nil, List.replicate, Nat.reduceAdd, Nat.reduceSub, List.cons_append, List.nil_append, List.append_nil, List.set_cons_zero, List.set_cons_succ, List.getElem?_cons_zero, List.getElem?_cons_succ, dFld_eq, gIx0, gIx1, gIx2, gIx3, gIx4, lIx0, lIx1, true_and, Nat.reduceLeDiff, gLen]
    have L : (partsOf a c).length ≤ 4 := by
      unfold partsOf
      cases c with
      | none => exact Nat.le_trans (partLen _ _ _ _ _) (by decide)
      | some d =>
        simp only [List.length_append]
        have L1 := partLen a a.t.1 a.l.1 (d.t.1 - 1) a.r.1
        have L2 := partLen a (d.b.1 + 1) a.l.1 a.b.1 a.r.1
        have L3 := partLen a d.t.1 a.l.1 d.b.1 (d.l.1 - 1)
        have L4 := partLen a d.t.1 (d.r.1 + 1) d.b.1 a.r.1
        omega
    rw [List.length_map]
    refine ⟨by omega, by omega, ?_⟩
    rw [Int.toNat_natCast]
    refine pair_loop T hp _ 0 none (by omega) fun y => ?_
    unfold u__law_pair_right_9
    simp only [dSeq, dNext, dIfS, dTest, dOp, dVar, dC, dRet, dRetN, dGet, dAnd, dOr, dNot, dAndV, dOrV, dNotV, dIf, dNil, dCons, dTup, dLst, dCB, dM0, dM1, dDrop, dAsg, dgName, dPar, dCal, dChain, dRaise, dRaise2, dFor, diSeq, items, diRange1, diRange2, dLc, dYes, dgTup, dgCons, dgNil, dSl, dPart, dNoPart, dNeg, dPenC, dPenA, dPenL, dPutA, dPutL, dgFld, dNew, dMet, dLstM, dFrz, dApp, dgIx, dAug, startD, List.map_cons, List.map_nil, List.length_cons, List.length_nil, List.replicate, Nat.reduceAdd, Nat.reduceSub, List.cons_append, List.nil_append, List.append_nil, List.set_cons_zero, List.set_cons_succ, List.getElem?_cons_zero, List.getElem?_cons_succ, dFld_eq, gIx0, gIx1, gIx2, gIx3, gIx4, lIx0, lIx1, true_and, Nat.reduceLeDiff, dLam]
    refine ⟨rfl, by decide, a, _, rfl, N, .inr ⟨rfl, .inl ⟨rfl, _, rfl, rfl, ?_⟩⟩⟩
    refine ⟨.tuple [.str (DL.S BAD), py4 a], .tuple [.str (DL.S BAD), py4 a], ?_, ?_, ?_, ?_, ?_⟩
    · simp only [py, pyL, py_4, Option.map_some]; rfl
    · simp only [py, pyL, py_4, Option.map_some]; rfl
    · exact shaped_t N.w S
    · exact shaped_t N.w S
    · have e5 : PyData.eqv (.tuple [.str (DL.S BAD), py4 a]) (.tuple [.str (DL.S BAD), py4 a]) = true := by
        unfold py4
        simp only [PyData.eqv, PyData.eqvAll, Bool.and_true, eqv_pr, eqv_w N.w N.w, eqv_sh, beq_self_eq_true, decide_true]
      rw [e5]
      exact h
  cases c with
  | none => exact go
  | some c =>
    obtain ⟨N3, _⟩ := sN N N' rfl
    have z1 : isNon (normT c) = false := rfl
    have z2 : isNon (areaD A c) = false := rfl
    simp only [normO, areaO, z1, z2, Bool.not_false]
    exact ⟨c, rfl, shA_of N3.s, N3.w, go⟩
end
end K17

set_option Elab.async false
set_option linter.all false
set_option maxRecDepth 100000
set_option maxHeartbeats 8000000
set_option autoImplicit false
namespace K17
open PySem PySem.Spec PyProof.Rows L2 DL
section
variable {P : Program} {K : PySem.W.Frag} {mg : Str → Option Value} {A : Ad} {cs : List Int}
def oneL : List Nat := [111, 110, 101]
def twoL : List Nat := [84, 87, 79]
theorem has_body {a : Ar} {b1 b2 : Int} {k : DEnds} {t0 : Nat} {μ : Addr → Option MO} {x1 x5 x6 x7 x8 x9 : Option D} (ha : ArN a) (hb : 0 ≤ b1 ∧ b1 + 7 ≤ 1000000 ∧ 0 ≤ b2 ∧ b2 + 7 ≤ 18278) (hn : t0 + 6 < 1000000)
    (H : ∀ y6 y7 y8 y9 t, t0 ≤ t → t ≤ t0 + 4 → k.nx [some .pen, x1, some (.tup [.int b1, .int b2]), some (areaD A a), some (normT a), x5, y6, y7, y8, y9] ⟨t, μ⟩) :
    l__law_has_right_2 K A cs k [some .pen, x1, some (.tup [.int b1, .int b2]), some (areaD A a), some (normT a), x5, x6, x7, x8, x9] ⟨t0, μ⟩ := by
  unfold l__law_has_right_2
  simp (config := {maxSteps := 5000000}) only [dSeq, dNext, dIfS, dTest, dOp, dVar, dC, dRet, dRetN, dGet, dAnd, dOr, dNot, dAndV, dOrV, dNotV, dIf, dNil, dCons, dTup, dLst, dCB, dM0, dM1, dDrop, dAsg, dgName, dPar, dCal, dChain, dRaise, dRaise2, dFor, diSeq, items, diRange1, diRange2, dLc, dYes, dgTup, dgCons, dgNil, dSl, dPart, dNoPart, dNeg, dPenC, dPenA, dPenL, dPutA, dPutL, dgFld, dNew, dMet, dLstM, dFrz, dApp, dgIx, dAug, startD, List.map_cons, List.map_nil, List.length_cons, List.length_nil, List.replicate, Nat.reduceAdd, Nat.reduceSub, List.cons_append, List.nil_append, List.append_nil, List.set_cons_zero, List.set_cons_succ, List.getElem?_cons_zero, List.getElem?_cons_succ, dFld_eq, gIx0, gIx1, gIx2, gIx3, gIx4, lIx0, lIx1, true_and, Nat.reduceLeDiff, f_first, f_last, f_whole, f_height, f_width, f_shR, f_shA, f_row, f_column, fst_r, fst_c, lst_r, lst_c, gAdd, DL.gSub, gI0, gGt, gLe, gLt, gOrd, normT, areaT, prD]
  refine ⟨7, rfl, by decide, by decide, by unfold lim; simp only; omega, fun k1 t1 p1 p2 h1 h2 => ?_⟩
  simp only at h1 h2 ⊢
  refine ⟨7, rfl, by decide, by decide, by unfold lim; simp only; omega, fun k2 t2 p3 p4 h3 h4 => ?_⟩
  simp only at h3 h4 ⊢
  refine ⟨2, rfl, by decide, by decide, by unfold lim; simp only; omega, fun k3 t3 p5 p6 h5 h6 => ?_⟩
  simp only [gEq, eqD, scEq] at h5 h6 ⊢
  refine ⟨_, rfl, by simp, by simp, by unfold lim; simp only; omega, fun so t4 hso h7 h8 => ?_⟩
  simp only at h7 h8 ⊢
  obtain ⟨s4, rfl, ok4⟩ : ∃ s4, so = shD s4 ∧ shOk s4 := by
    simp only [List.mem_cons, List.not_mem_nil, or_false] at hso
    rcases hso with rfl | rfl | rfl
    · exact ⟨none, rfl, fun _ z => by cases z⟩
    · exact ⟨some oneL, rfl, fun l z => by cases z; decide +kernel⟩
    · exact ⟨some twoL, rfl, fun l z => by cases z; decide +kernel⟩
  have PO : PlOk ⟨b1 + 1 + k1, b2 + 1 + k2, decide (k3 = 0), false, s4⟩ := ⟨grid_iff.mpr ⟨by simp only; omega, by simp only; omega, by simp only; omega, by simp only; omega⟩, ok4⟩
  have hB := hasB a ⟨b1 + 1 + k1, b2 + 1 + k2, decide (k3 = 0), false, s4⟩
  have sm := shA_of ha.s
  have sn := shA_of ok4
  by_cases g1 : a.t.1 ≤ b1 + 1 + k1 <;> by_cases g2 : b1 + 1 + k1 ≤ a.b.1 <;> by_cases g3 : a.l.1 ≤ b2 + 1 + k2 <;> by_cases g4 : b2 + 1 + k2 ≤ a.r.1
  all_goals
    simp only [g1, g2, g3, g4, decide_true, decide_false]
    refine ⟨rfl, by decide, _, rfl, PO, a, _, rfl, ha, PO, ?_⟩
    first
      | (refine ⟨a.sh, s4, rfl, sm, sn, ?_⟩; simp only [gNe, eqD, scEq, hasB, g1, g2, g3, g4, decide_true, decide_false, Bool.and_self, Bool.and_true, Bool.and_false, Bool.true_and, Bool.false_and, Bool.not_true]; exact H _ _ _ _ _ (by omega) (by omega))
      | (simp only [gNe, eqD, scEq, hasB, g1, g2, g3, g4, decide_true, decide_false, Bool.and_self, Bool.and_true, Bool.and_false, Bool.true_and, Bool.false_and, Bool.not_true]; exact H _ _ _ _ _ (by omega) (by omega))
theorem p__law_has_right (ds : List D) (n : NS) (q : D → NS → Prop) (e : DY) (hl : ds.length = 3) (h : s__law_has_right A ds n q e) : t__law_has_right K A cs { nx := fun _ n' => q .non n', rt := q, ex := fun _ => e } (startD N__law_has_right ds) n := by
  obtain ⟨t0, μ⟩ := n
  obtain ⟨x, y, u, v, w, sh, b1, b2, rfl, O, hb, hn, h⟩ := h
  simp only [lim] at hn h
  have N := nrm_N O
  unfold t__law_has_right
  simp only [dSeq, dNext, dIfS, dTest, dOp, dVar, dC, dRet, dRetN, dGet, dAnd, dOr, dNot, dAndV, dOrV, dNotV, dIf, dNil, dCons, dTup, dLst, dCB, dM0, dM1, dDrop, dAsg, dgName, dPar, dCal, dChain, dRaise, dRaise2, dFor, diSeq, items, diRange1, diRange2, dLc, dYes, dgTup, dgCons, dgNil, dSl, dPart, dNoPart, dNeg, dPenC, dPenA, dPenL, dPutA, dPutL, dgFld, dNew, dMet, dLstM, dFrz, dApp, dgIx, dAug, startD, List.map_cons, List.map_nil, List.length_cons, List.length_nil, List.replicate, Nat.reduceAdd, Nat.reduceSub, List.cons_append, List.nil_append, List.append_nil, List.set_cons_zero, List.set_cons_succ, List.getElem?_cons_zero, List.getElem?_cons_succ, dFld_eq, gIx0, gIx1, gIx2, gIx3, gIx4, lIx0, lIx1, true_and, Nat.reduceLeDiff]
  refine ⟨x, y, u, v, w, sh, rfl, O, x, y, u, v, w, sh, rfl, O.w, ?_⟩
  unfold u__law_has_right_2
  simp only [dSeq, dNext, dIfS, dTest, dOp, dVar, dC, dRet, dRetN, dGet, dAnd, dOr, dNot, dAndV, dOrV, dNotV, dIf, dNil, dCons, dTup, dLst, dCB, dM0, dM1, dDrop, dAsg, dgName, dPar, dCal, dChain, dRaise, dRaise2, dFor, diSeq, items, diRange1, diRange2, dLc, dYes, dgTup, dgCons, dgNil, dSl, dPart, dNoPart, dNeg, dPenC, dPenA, dPenL, dPutA, dPutL, dgFld, dNew, dMet, dLstM, dFrz, dApp, dgIx, dAug, startD, List.map_cons, List.map_nil, List.length_cons, List.length_nil, List.replicate, Nat.reduceAdd, Nat.reduceSub, List.cons_append, List.nil_append, List.append_nil, List.set_cons_zero, List.set_cons_succ, List.getElem?_cons_zero, List.getElem?_cons_succ, dFld_eq, gIx0, gIx1, gIx2, gIx3, gIx4, lIx0, lIx1, true_and, Nat.reduceLeDiff]
  refine ⟨by decide, by decide, ?_⟩
  have er : rangeD 0 (3 : Int).toNat = [.int 0, .int 1, .int 2] := rfl
  rw [er]
  simp only [dForL, dgName, dSeq, dNext, dIfS, dTest, dOp, dVar, dC, dRet, dRetN, dGet, dAnd, dOr, dNot, dAndV, dOrV, dNotV, dIf, dNil, dCons, dTup, dLst, dCB, dM0, dM1, dDrop, dAsg, dgName, dPar, dCal, dChain, dRaise, dRaise2, dFor, diSeq, items, diRange1, diRange2, dLc, dYes, dgTup, dgCons, dgNil, dSl, dPart, dNoPart, dNeg, dPenC, dPenA, dPenL, dPutA, dPutL, dgFld, dNew, dMet, dLstM, dFrz, dApp, dgIx, dAug, startD, List.map_cons, List.map_nil, List.length_cons, List.length_nil, List.replicate, Nat.reduceAdd, Nat.reduceSub, List.cons_append, List.nil_append, List.append_nil, List.set_cons_zero, List.set_cons_succ, List.getElem?_cons_zero, List.getElem?_cons_succ, dFld_eq, gIx0, gIx1, gIx2, gIx3, gIx4, lIx0, lIx1, true_and, Nat.reduceLeDiff]
  refine has_body N hb (by omega) fun _ _ _ _ t1 h1 h2 => ?_
  simp only [dSeq, dNext, dIfS, dTest, dOp, dVar, dC, dRet, dRetN, dGet, dAnd, dOr, dNot, dAndV, dOrV, dNotV, dIf, dNil, dCons, dTup, dLst, dCB, dM0, dM1, dDrop, dAsg, dgName, dPar, dCal, dChain, dRaise, dRaise2, dFor, diSeq, items, diRange1, diRange2, dLc, dYes, dgTup, dgCons, dgNil, dSl, dPart, dNoPart, dNeg, dPenC, dPenA, dPenL, dPutA, dPutL, dgFld, dNew, dMet, dLstM, dFrz, dApp, dgIx, dAug, startD, List.map_cons, List.map_nil, List.length_cons, List.length_nil, List.replicate, Nat.reduceAdd, Nat.reduceSub, List.cons_append, List.nil_append, List.append_nil, List.set_cons_zero, List.set_cons_succ, List.getElem?_cons_zero, List.getElem?_cons_succ, dFld_eq, gIx0, gIx1, gIx2, gIx3, gIx4, lIx0, lIx1, true_and, Nat.reduceLeDiff]
  refine has_body N hb (by omega) fun _ _ _ _ t2 h3 h4 => ?_
  simp only [dSeq, dNext, dIfS, dTest, dOp, dVar, dC, dRet, dRetN, dGet, dAnd, dOr, dNot, dAndV, dOrV, dNotV, dIf, dNil, dCons, dTup, dLst, dCB, dM0, dM1, dDrop, dAsg, dgName, dPar, dCal, dChain, dRaise, dRaise2, dFor, diSeq, items, diRange1, diRange2, dLc, dYes, dgTup, dgCons, dgNil, dSl, dPart, dNoPart, dNeg, dPenC, dPenA, dPenL, dPutA, dPutL, dgFld, dNew, dMet, dLstM, dFrz, dApp, dgIx, dAug, startD, List.map_cons, List.map_nil, List.length_cons, List.length_nil, List.replicate, Nat.reduceAdd, Nat.reduceSub, List.cons_append, List.nil_append, List.append_nil, List.set_cons_zero, List.set_cons_succ, List.getElem?_cons_zero, List.getElem?_cons_succ, dFld_eq, gIx0, gIx1, gIx2, gIx3, gIx4, lIx0, lIx1, true_and, Nat.reduceLeDiff]
  refine has_body N hb (by omega) fun _ _ _ _ t3 h5 h6 => ?_
  simp only
  unfold u__law_has_right_3
  simp only [dSeq, dNext, dIfS, dTest, dOp, dVar, dC, dRet, dRetN, dGet, dAnd, dOr, dNot, dAndV, dOrV, dNotV, dIf, dNil, dCons, dTup, dLst, dCB, dM0, dM1, dDrop, dAsg, dgName, dPar, dCal, dChain, dRaise, dRaise2, dFor, diSeq, items, diRange1, diRange2, dLc, dYes, dgTup, dgCons, dgNil, dSl, dPart, dNoPart, dNeg, dPenC, dPenA, dPenL, dPutA, dPutL, dgFld, dNew, dMet, dLstM, dFrz, dApp, dgIx, dAug, startD, List.map_cons, List.map_nil, List.length_cons, List.length_nil, List.replicate, Nat.reduceAdd, Nat.reduceSub, List.cons_append, List.nil_append, List.append_nil, List.set_cons_zero, List.set_cons_succ, List.getElem?_cons_zero, List.getElem?_cons_succ, dFld_eq, gIx0, gIx1, gIx2, gIx3, gIx4, lIx0, lIx1, true_and, Nat.reduceLeDiff]
  exact h t3 (by omega) (by omega)
end
end K17

set_option Elab.async false
set_option linter.all false
set_option maxRecDepth 100000
set_option maxHeartbeats 8000000
set_option autoImplicit false
namespace K17
open PySem PySem.Spec PyProof.Rows L2 DL
section
variable {P : Program} {K : PySem.W.Frag} {mg : Str → Option Value} {A : Ad} {cs : List Int}
theorem mul_le (a : Ar) (ha : ArN a) : 0 ≤ hgt a ∧ hgt a ≤ 1000000 ∧ 0 < wdt a ∧ wdt a ≤ 18278 ∧ 0 ≤ hgt a * wdt a ∧ hgt a * wdt a ≤ 18278000000 := by
  have l1 := ha.l.1; have l2 := ha.l.2; have r3 := ha.r.1; have r4 := ha.r.2; have lr := ha.lr
  have t1 := ha.t.1; have t2 := ha.t.2; have b1 := ha.b.1; have b2 := ha.b.2; have tb := ha.tb
  have e1 : 0 ≤ hgt a := by unfold hgt; omega
  have e2 : hgt a ≤ 1000000 := by unfold hgt; omega
  have e3 : 0 < wdt a := by unfold wdt; omega
  have e4 : wdt a ≤ 18278 := by unfold wdt; omega
  refine ⟨e1, e2, e3, e4, Int.mul_nonneg e1 (by omega), ?_⟩
  have := Int.mul_le_mul e2 e4 (by omega) (by omega)
  omega
abbrev cellsE (a : Ar) (x1 x2 x3 x8 x9 x10 : Option D) : DEnv := [some .pen, x1, x2, x3, some (normT a), some (.int (hgt a)), some (.int (wdt a)), some (.tup [.str [116, 111, 108, 100], .tup ((cellsOf a).map (adrD A))]), x8, x9, x10]
theorem cells_body (T : Txt P K mg A) {a : Ar} {k : DEnds} {n : NS} {x1 x2 x3 x9 x10 : Option D} (ha : ArN a) {i : Nat} (hi : (i : Int) < hgt a * wdt a)
    (H : ∀ y9 y10, k.nx (cellsE (A := A) a x1 x2 x3 (some (.int (i : Nat))) y9 y10) n) : l__law_cells_right_2 K A cs k (cellsE (A := A) a x1 x2 x3 (some (.int (i : Nat))) x9 x10) n := by
  unfold cellsE at *
  obtain ⟨m1, m2, m3, m4, m5, m6⟩ := mul_le a ha
  have lr := cells_len a ha
  have ca := cells_at a ha hi
  have a1 : atI ((cellsOf a).map (adrD A)) (i : Nat) = some (adrD A ⟨a.t.1 + (i : Int) / wdt a, a.l.1 + (i : Int) % wdt a, false, false, a.sh⟩) := by
    rw [atI_nat (by rw [List.length_map]; omega), List.getElem_map]
    congr 2
    exact (List.getElem?_eq_some_iff.mp ca).2
  unfold l__law_cells_right_2
  simp (config := {maxSteps := 5000000}) only [dSeq, dNext, dIfS, dTest, dOp, dVar, dC, dRet, dRetN, dGet, dAnd, dOr, dNot, dAndV, dOrV, dNotV, dIf, dNil, dCons, dTup, dLst, dCB, dM0, dM1, dDrop, dAsg, dgName, dPar, dCal, dChain, dRaise, dRaise2, dFor, diSeq, items, diRange1, diRange2, dLc, dYes, dgTup, dgCons, dgNil, dSl, dPart, dNoPart, dNeg, dPenC, dPenA, dPenL, dPutA, dPutL, dgFld, dNew, dMet, dLstM, dFrz, dApp, dgIx, dAug, startD, List.map_cons, List.map_nil, List.length_cons, List.length_nil, List.replicate, Nat.reduceAdd, Nat.reduceSub, List.cons_append, List.nil_append, List.append_nil, List.set_cons_zero, List.set_cons_succ, List.getElem?_cons_zero, List.getElem?_cons_succ, dFld_eq, gIx0, gIx1, gIx2, gIx3, gIx4, lIx0, lIx1, true_and, Nat.reduceLeDiff, f_first, f_last, f_whole, f_height, f_width, f_shR, f_shA, f_row, f_column, fst_r, fst_c, lst_r, lst_c, gAdd, DL.gSub, gI0, gGt, gLe, gLt, gOrd, normT, areaT, prD, gInt, gDiv, gMod, gI]
  refine ⟨⟨m3, .inl (by omega)⟩, by omega, ?_⟩
  refine ⟨_, a1, ⟨_, _, false, false, a.sh⟩, rfl, shA_of ha.s, ?_⟩
  exact H _ _
theorem rg_up {N c : Int} (h1 : 0 < N) (h2 : N ≤ 10000) (hc : c = 1 ∨ c = 999) : ∃ m, RgC 0 N c m ∧ ∀ i : Nat, i < m → (i : Int) * c < N := by
  refine ⟨((N - 1) / c + 1).toNat, ⟨by omega, by omega, ?_, ?_⟩, ?_⟩
  · rcases hc with rfl | rfl
    · exact PySem.small_one (by omega) (by omega) (by omega) (by omega)
    · unfold Builtin.Range.small
      simp only [Builtin.Range.rangeSize, Builtin.Range.rangeFitsLong, Bool.and_eq_true, Bool.or_eq_true, decide_eq_true_eq, beq_iff_eq, show (999 : Int) > 0 by decide, if_true, if_pos h1]
      omega
  · unfold Builtin.Range.rangeSize
    rcases hc with rfl | rfl
    · rw [if_pos (by decide), if_pos h1]
      omega
    · rw [if_pos (by decide), if_pos h1]
      omega
  · intro i hi
    rcases hc with rfl | rfl <;> omega
theorem cells_loop (T : Txt P K mg A) {a : Ar} {k : DEnds} {n : NS} {x1 x2 x3 : Option D} {c : Nat} (ha : ArN a) (H : ∀ y8 y9 y10, k.nx (cellsE (A := A) a x1 x2 x3 y8 y9 y10) n) : ∀ (is : List Nat) (x8 x9 x10 : Option D), (∀ i ∈ is, (i : Int) * c < hgt a * wdt a) →
    dForL (dgName 8) (l__law_cells_right_2 K A cs) (is.map fun i => .int (0 + (i : Nat) * (c : Int))) k (cellsE (A := A) a x1 x2 x3 x8 x9 x10) n
  | [], x8, x9, x10, _ => H x8 x9 x10
  | i :: is, x8, x9, x10, hi => by
    have h := hi i (.head _)
    have e : (0 : Int) + (i : Nat) * (c : Int) = ((i * c : Nat) : Int) := by rw [Int.natCast_mul]; omega
    have e2 : (i : Int) * c = ((i * c : Nat) : Int) := by rw [Int.natCast_mul]
    rw [e2] at h
    rw [List.map_cons, e]
    refine cells_body (cs := cs) T ha h fun y9 y10 => ?_
    exact cells_loop T ha H is _ _ _ fun j hj => hi j (.tail _ hj)
theorem p__law_cells_right (T : Txt P K mg A) (ds : List D) (n : NS) (q : D → NS → Prop) (e : DY) (hl : ds.length = 2) (h : s__law_cells_right A ds n q e) : t__law_cells_right K A cs { nx := fun _ n' => q .non n', rt := q, ex := fun _ => e } (startD N__law_cells_right ds) n := by
  obtain ⟨t0, μ⟩ := n
  obtain ⟨x, y, u, v, w, sh, rfl, O, hn, h⟩ := h
  simp only [lim] at hn h
  have go : ∀ x y u v w sh x2 t, TOk x y u v w sh → t0 ≤ t → t ≤ t0 + 3 → u__law_cells_right_2 K A cs { nx := fun x n' => q .non n', rt := q, ex := fun x => e } [some .pen, some (areaT x y u v w sh), x2, none, none, none, none, none, none, none, none] ⟨t, μ⟩ := fun x y u v w sh x2 t O h1 h2 => by
    have N := nrm_N O
    unfold u__law_cells_right_2
    simp only [dSeq, dNext, dIfS, dTest, dOp, dVar, dC, dRet, dRetN, dGet, dAnd, dOr, dNot, dAndV, dOrV, dNotV, dIf, dNil, dCons, dTup, dLst, dCB, dM0, dM1, dDrop, dAsg, dgName, dPar, dCal, dChain, dRaise, dRaise2, dFor, diSeq, items, diRange1, diRange2, dLc, dYes, dgTup, dgCons, dgNil, dSl, dPart, dNoPart, dNeg, dPenC, dPenA, dPenL, dPutA, dPutL, dgFld, dNew, dMet, dLstM, dFrz, dApp, dgIx, dAug, startD, List.map_cons, List.map_nil, List.length_cons, List.length_nil, List.replicate, Nat.reduceAdd, Nat.reduceSub, List.cons_append, List.nil_append, List.append_nil, List.set_cons_zero, List.set_cons_succ, List.getElem?_cons_zero, List.getElem?_cons_succ, dFld_eq, gIx0, gIx1, gIx2, gIx3, gIx4, lIx0, lIx1, true_and, Nat.reduceLeDiff]
    refine ⟨x, y, u, v, w, sh, rfl, O, x, y, u, v, w, sh, rfl, O.w, ?_⟩
    generalize eA : nrm x y u v w sh = a at N
    obtain ⟨m1, m2, m3, m4, m5, m6⟩ := mul_le a N
    have m7 : 0 < hgt a * wdt a := Int.mul_pos (by have := N.tb; unfold hgt; omega) m3
    have CL := cells_len a N
    unfold u__law_cells_right_3
    simp only [dSeq, dNext, dIfS, dTest, dOp, dVar, dC, dRet, dRetN, dGet, dAnd, dOr, dNot, dAndV, dOrV, dNotV, dIf, dNil, dCons, dTup, dLst, dCB, dM0, dM1, dDrop, dAsg, dgName, dPar, dCal, dChain, dRaise, dRaise2, dFor, diSeq, items, diRange1, diRange2, dLc, dYes, dgTup, dgCons, dgNil, dSl, dPart, dNoPart, dNeg, dPenC, dPenA, dPenL, dPutA, dPutL, dgFld, dNew, dMet, dLstM, dFrz, dApp, dgIx, dAug, startD, List.map_cons, List.map_nil, List.length_cons, List.length_nil, List.replicate, Nat.reduceAdd, Nat.reduceSub, List.cons_append, List.nil_append, List.append_nil, List.set_cons_zero, List.set_cons_succ, List.getElem?_cons_zero, List.getElem?_cons_succ, dFld_eq, gIx0, gIx1, gIx2, gIx3, gIx4, lIx0, lIx1, true_and, Nat.reduceLeDiff, f_first, f_last, f_whole, f_height, f_width, f_shR, f_shA, f_row, f_column, fst_r, fst_c, lst_r, lst_c, gAdd, DL.gSub, gI0, gGt, gLe, gLt, gOrd, normT, areaT, prD]
    have e1 : a.b.1 - a.t.1 + 1 = hgt a := rfl
    have e2 : a.r.1 - a.l.1 + 1 = wdt a := rfl
    rw [e1, e2]
    unfold u__law_cells_right_4
    simp only [dSeq, dNext, dIfS, dTest, dOp, dVar, dC, dRet, dRetN, dGet, dAnd, dOr, dNot, dAndV, dOrV, dNotV, dIf, dNil, dCons, dTup, dLst, dCB, dM0, dM1, dDrop, dAsg, dgName, dPar, dCal, dChain, dRaise, dRaise2, dFor, diSeq, items, diRange1, diRange2, dLc, dYes, dgTup, dgCons, dgNil, dSl, dPart, dNoPart, dNeg, dPenC, dPenA, dPenL, dPutA, dPutL, dgFld, dNew, dMet, dLstM, dFrz, dApp, dgIx, dAug, startD, List.map_cons, List.map_nil, List.length_cons, List.length_nil, List.replicate, Nat.reduceAdd, Nat.reduceSub, List.cons_append, List.nil_append, List.append_nil, List.set_cons_zero, List.set_cons_succ, List.getElem?_cons_zero, List.getElem?_cons_succ, dFld_eq, gIx0, gIx1, gIx2, gIx3, gIx4, lIx0, lIx1, true_and, Nat.reduceLeDiff, dLam]
    by_cases c : 10000 < hgt a * wdt a
    · refine ⟨rfl, by decide, a, rfl, N, fun _ => .inr ⟨rfl, _, rfl, rfl, ?_⟩, fun z => by omega⟩
      unfold u__law_cells_right_5
      simp only [dSeq, dNext, dIfS, dTest, dOp, dVar, dC, dRet, dRetN, dGet, dAnd, dOr, dNot, dAndV, dOrV, dNotV, dIf, dNil, dCons, dTup, dLst, dCB, dM0, dM1, dDrop, dAsg, dgName, dPar, dCal, dChain, dRaise, dRaise2, dFor, diSeq, items, diRange1, diRange2, dLc, dYes, dgTup, dgCons, dgNil, dSl, dPart, dNoPart, dNeg, dPenC, dPenA, dPenL, dPutA, dPutL, dgFld, dNew, dMet, dLstM, dFrz, dApp, dgIx, dAug, startD, List.map_cons, List.map_nil, List.length_cons, List.length_nil, List.replicate, Nat.reduceAdd, Nat.reduceSub, List.cons_append, List.nil_append, List.append_nil, List.set_cons_zero, List.set_cons_succ, List.getElem?_cons_zero, List.getElem?_cons_succ, dFld_eq, gIx0, gIx1, gIx2, gIx3, gIx4, lIx0, lIx1, true_and, Nat.reduceLeDiff, f_first, f_last, f_whole, f_height, f_width, f_shR, f_shA, f_row, f_column, fst_r, fst_c, lst_r, lst_c, gAdd, DL.gSub, gI0, gGt, gLe, gLt, gOrd, normT, areaT, prD, gMul, gI, gEq]
      refine ⟨mul_l (by omega), ?_⟩
      rw [decide_eq_true c]
      exact ⟨_, _, rfl, rfl, by decide +kernel, by decide +kernel, h t (by omega) (by omega)⟩
    · refine ⟨rfl, by decide, a, rfl, N, fun z => absurd z c, fun _ => ?_⟩
      unfold u__law_cells_right_5
      simp only [dSeq, dNext, dIfS, dTest, dOp, dVar, dC, dRet, dRetN, dGet, dAnd, dOr, dNot, dAndV, dOrV, dNotV, dIf, dNil, dCons, dTup, dLst, dCB, dM0, dM1, dDrop, dAsg, dgName, dPar, dCal, dChain, dRaise, dRaise2, dFor, diSeq, items, diRange1, diRange2, dLc, dYes, dgTup, dgCons, dgNil, dSl, dPart, dNoPart, dNeg, dPenC, dPenA, dPenL, dPutA, dPutL, dgFld, dNew, dMet, dLstM, dFrz, dApp, dgIx, dAug, startD, List.map_cons, List.map_nil, List.length_cons, List.length_nil, List.replicate, Nat.reduceAdd, Nat.reduceSub, List.cons_append, List.nil_append, List.append_nil, List.set_cons_zero, List.set_cons_succ, List.getElem?_cons_zero, List.getElem?_cons_succ, dFld_eq, gIx0, gIx1, gIx2, gIx3, gIx4, lIx0, lIx1, true_and, Nat.reduceLeDiff, f_first, f_last, f_whole, f_height, f_width, f_shR, f_shA, f_row, f_column, fst_r, fst_c, lst_r, lst_c, gAdd, DL.gSub, gI0, gGt, gLe, gLt, gOrd, normT, areaT, prD, gMul, gI, gEq]
      refine ⟨mul_l (by omega), ?_⟩
      rw [decide_eq_false c]
      simp only
      unfold u__law_cells_right_6
      simp only [dSeq, dNext, dIfS, dTest, dOp, dVar, dC, dRet, dRetN, dGet, dAnd, dOr, dNot, dAndV, dOrV, dNotV, dIf, dNil, dCons, dTup, dLst, dCB, dM0, dM1, dDrop, dAsg, dgName, dPar, dCal, dChain, dRaise, dRaise2, dFor, diSeq, items, diRange1, diRange2, dLc, dYes, dgTup, dgCons, dgNil, dSl, dPart, dNoPart, dNeg, dPenC, dPenA, dPenL, dPutA, dPutL, dgFld, dNew, dMet, dLstM, dFrz, dApp, dgIx, dAug, startD, List.map_cons, List.map_nil, List.length_cons, List.length_nil, List.replicate, Nat.reduceAdd, Nat.reduceSub, List.cons_append, List.nil_append, List.append_nil, List.set_cons_zero, List.set_cons_succ, List.getElem?_cons_zero, List.getElem?_cons_succ, dFld_eq, gIx0, gIx1, gIx2, gIx3, gIx4, lIx0, lIx1, true_and, Nat.reduceLeDiff, f_first, f_last, f_whole, f_height, f_width, f_shR, f_shA, f_row, f_column, fst_r, fst_c, lst_r, lst_c, gAdd, DL.gSub, gI0, gGt, gLe, gLt, gOrd, normT, areaT, prD, gMul, gI, gNe, eqD, scEq, gIsi, isiD, kindD, kit_int_int, kit_int_bool, kit_int_str, kit_int_list, kit_int_tuple, kit_bool_int, kit_bool_bool, kit_bool_str, kit_bool_list, kit_bool_tuple, kit_str_int, kit_str_bool, kit_str_str, kit_str_list, kit_str_tuple, kit_non_int, kit_non_bool, kit_non_str, kit_non_list, kit_non_tuple, kit_list_int, kit_list_bool, kit_list_str, kit_list_list, kit_list_tuple, kit_tuple_int, kit_tuple_bool, kit_tuple_str, kit_tuple_list, kit_tuple_tuple, gLen, decide_true, Bool.not_true]
      refine ⟨mul_l (by omega), ?_⟩
      rw [List.length_map, CL, decide_eq_true rfl]
      simp only [Bool.not_true]
      unfold u__law_cells_right_7
      simp only [dSeq, dNext, dIfS, dTest, dOp, dVar, dC, dRet, dRetN, dGet, dAnd, dOr, dNot, dAndV, dOrV, dNotV, dIf, dNil, dCons, dTup, dLst, dCB, dM0, dM1, dDrop, dAsg, dgName, dPar, dCal, dChain, dRaise, dRaise2, dFor, diSeq, items, diRange1, diRange2, dLc, dYes, dgTup, dgCons, dgNil, dSl, dPart, dNoPart, dNeg, dPenC, dPenA, dPenL, dPutA, dPutL, dgFld, dNew, dMet, dLstM, dFrz, dApp, dgIx, dAug, startD, List.map_cons, List.map_nil, List.length_cons, List.length_nil, List.replicate, Nat.reduceAdd, Nat.reduceSub, List.cons_append, List.nil_append, List.append_nil, List.set_cons_zero, List.set_cons_succ, List.getElem?_cons_zero, List.getElem?_cons_succ, dFld_eq, gIx0, gIx1, gIx2, gIx3, gIx4, lIx0, lIx1, true_and, Nat.reduceLeDiff, f_first, f_last, f_whole, f_height, f_width, f_shR, f_shA, f_row, f_column, fst_r, fst_c, lst_r, lst_c, gAdd, DL.gSub, gI0, gGt, gLe, gLt, gOrd, normT, areaT, prD, gMul, gI, diRange3]
      refine ⟨mul_l (by omega), ?_⟩
      have fin : ∀ c : Nat, (c = 1 ∨ c = 999) → ∃ m, RgC 0 (hgt a * wdt a) (c : Int) m ∧ dForL (dgName 8) (l__law_cells_right_2 K A cs) (rangeC 0 (c : Int) m) { nx := fun δ' n' => u__law_cells_right_8 K A cs { nx := fun x n' => q .non n', rt := q, ex := fun x => e } δ' n', rt := q, ex := fun x => e } (cellsE (A := A) a (some (areaT x y u v w sh)) x2 (some (areaD A a)) none none none) ⟨t, μ⟩ := fun c hc => by
        obtain ⟨m, hm, hi⟩ := rg_up (c := (c : Int)) m7 (by omega) (by omega)
        refine ⟨m, hm, ?_⟩
        refine cells_loop (c := c) T N (fun _ _ _ => ?_) (List.range m) _ _ _ fun i h => hi i (List.mem_range.mp h)
        simp only
        unfold u__law_cells_right_8
        simp only [dSeq, dNext, dIfS, dTest, dOp, dVar, dC, dRet, dRetN, dGet, dAnd, dOr, dNot, dAndV, dOrV, dNotV, dIf, dNil, dCons, dTup, dLst, dCB, dM0, dM1, dDrop, dAsg, dgName, dPar, dCal, dChain, dRaise, dRaise2, dFor, diSeq, items, diRange1, diRange2, dLc, dYes, dgTup, dgCons, dgNil, dSl, dPart, dNoPart, dNeg, dPenC, dPenA, dPenL, dPutA, dPutL, dgFld, dNew, dMet, dLstM, dFrz, dApp, dgIx, dAug, startD, List.map_cons, List.map_nil, List.length_cons, List.length_nil, List.replicate, Nat.reduceAdd, Nat.reduceSub, List.cons_append, List.nil_append, List.append_nil, List.set_cons_zero, List.set_cons_succ, List.getElem?_cons_zero, List.getElem?_cons_succ, dFld_eq, gIx0, gIx1, gIx2, gIx3, gIx4, lIx0, lIx1, true_and, Nat.reduceLeDiff]
        exact h t (by omega) (by omega)
      by_cases c5 : wdt a < 10
      · rw [decide_eq_true c5]
        exact fin 1 (.inl rfl)
      · rw [decide_eq_false c5]
        exact fin 999 (.inr rfl)
  unfold t__law_cells_right
  simp only [dSeq, dNext, dIfS, dTest, dOp, dVar, dC, dRet, dRetN, dGet, dAnd, dOr, dNot, dAndV, dOrV, dNotV, dIf, dNil, dCons, dTup, dLst, dCB, dM0, dM1, dDrop, dAsg, dgName, dPar, dCal, dChain, dRaise, dRaise2, dFor, diSeq, items, diRange1, diRange2, dLc, dYes, dgTup, dgCons, dgNil, dSl, dPart, dNoPart, dNeg, dPenC, dPenA, dPenL, dPutA, dPutL, dgFld, dNew, dMet, dLstM, dFrz, dApp, dgIx, dAug, startD, List.map_cons, List.map_nil, List.length_cons, List.length_nil, List.replicate, Nat.reduceAdd, Nat.reduceSub, List.cons_append, List.nil_append, List.append_nil, List.set_cons_zero, List.set_cons_succ, List.getElem?_cons_zero, List.getElem?_cons_succ, dFld_eq, gIx0, gIx1, gIx2, gIx3, gIx4, lIx0, lIx1, true_and, Nat.reduceLeDiff, f_first, f_last, f_whole, f_height, f_width, f_shR, f_shA, f_row, f_column, fst_r, fst_c, lst_r, lst_c, gAdd, DL.gSub, gI0, gGt, gLe, gLt, gOrd, normT, areaT, prD]
  refine ⟨60, rfl, by decide, by decide, by unfold lim; simp only; omega, fun k1 t1 p1 p2 h1 h2 => ?_⟩
  simp only [gEq, eqD, scEq] at h1 h2 ⊢
  by_cases c : k1 = 0
  · rw [decide_eq_true c]
    simp only
    refine ⟨2, rfl, by decide, by decide, by unfold lim; simp only; omega, fun k2 t2 p3 p4 h3 h4 => ?_⟩
    simp only at h3 h4 ⊢
    exact go (1, false) (100, false) (7, false) (106 + k2, false) 0 sh _ t2 ⟨⟨by decide, by decide⟩, ⟨by decide, by decide⟩, ⟨by decide, by decide⟩, ⟨by simp only; omega, by simp only; omega⟩, by decide, O.s⟩ (by omega) (by omega)
  · rw [decide_eq_false c]
    exact go x y u v w sh _ t1 O (by omega) (by omega)
end
end K17

set_option Elab.async false
set_option linter.all false
set_option maxRecDepth 100000
set_option maxHeartbeats 8000000
set_option autoImplicit false
namespace K17
open PySem PySem.Spec PyProof.Rows L2 DL
section
variable {P : Program} {K : PySem.W.Frag} {mg : Str → Option Value} {A : Ad}
def sheetsL : List D := [.non, .non, .str ONE, .str one, .str TWO]
theorem sheets_ok {d : D} (h : d ∈ sheetsL) : ∃ sh, d = shD sh ∧ shOk sh := by
  simp only [sheetsL, List.mem_cons, List.not_mem_nil, or_false] at h
  rcases h with rfl | rfl | rfl | rfl | rfl
  · exact ⟨none, rfl, fun _ z => by cases z⟩
  · exact ⟨none, rfl, fun _ z => by cases z⟩
  · exact ⟨some ONE, rfl, fun l z => by cases z; decide +kernel⟩
  · exact ⟨some one, rfl, fun l z => by cases z; decide +kernel⟩
  · exact ⟨some TWO, rfl, fun l z => by cases z; decide +kernel⟩
theorem sheets_in {sh : Option (List Nat)} (h : shD sh ∈ sheetsL) : sh ∈ SHS := by
  simp only [sheetsL, List.mem_cons, List.not_mem_nil, or_false] at h
  cases sh with
  | none => exact .head _
  | some l =>
    simp only [shD, reduceCtorEq, D.str.injEq, false_or] at h
    rcases h with rfl | rfl | rfl
    · exact .tail _ (.head _)
    · exact .tail _ (.tail _ (.head _))
    · exact .tail _ (.tail _ (.tail _ (.head _)))
theorem law_body (T : Txt P K mg A) (cs : List Int) {k : DEnds} {x0 x2 x3 x4 x5 x6 : Option D} {t0 : Nat} {μ : Addr → Option MO} (hn : t0 + 400 < 1000000)
    (H : ∀ y3 y4 y5 y6 t, t0 ≤ t → t ≤ t0 + 300 → k.nx [x0, some .pen, x2, y3, y4, y5, y6] ⟨t, μ⟩) : l_law_1 K A cs k [x0, some .pen, x2, x3, x4, x5, x6] ⟨t0, μ⟩ := by
  unfold l_law_1
  simp (config := {maxSteps := 5000000}) only [dSeq, dNext, dIfS, dTest, dOp, dVar, dC, dRet, dRetN, dGet, dAnd, dOr, dNot, dAndV, dOrV, dNotV, dIf, dNil, dCons, dTup, dLst, dCB, dM0, dM1, dDrop, dAsg, dgName, dPar, dCal, dChain, dRaise, dRaise2, dFor, diSeq, items, diRange1, diRange2, dLc, dYes, dgTup, dgCons, dgNil, dSl, dPart, dNoPart, dNeg, dPenC, dPenA, dPenL, dPutA, dPutL, dgFld, dNew, dMet, dLstM, dFrz, dApp, dgIx, dAug, startD, List.map_cons, List.map_nil, List.length_cons, List.length_nil, List.replicate, Nat.reduceAdd, Nat.reduceSub, List.cons_append, List.nil_append, List.append_nil, List.set_cons_zero, List.set_cons_succ, List.getElem?_cons_zero, List.getElem?_cons_succ, dFld_eq, gIx0, gIx1, gIx2, gIx3, gIx4, lIx0, lIx1, true_and, Nat.reduceLeDiff, dRevL]
  refine ⟨_, rfl, by decide, by decide, by unfold lim; simp only; omega, fun b t1 hb h1 h2 => ?_⟩
  simp only at h1 h2 ⊢
  obtain ⟨b1, b2, rfl, k1, k2, k3, k4⟩ : ∃ b1 b2 : Int, b = .tup [.int b1, .int b2] ∧ 0 ≤ b1 ∧ b1 + 7 ≤ 1000000 ∧ 0 ≤ b2 ∧ b2 + 7 ≤ 18278 := by
    simp only [List.mem_cons, List.not_mem_nil, or_false] at hb
    rcases hb with rfl | rfl | rfl | rfl
    · exact ⟨0, 0, rfl, by decide, by decide, by decide, by decide⟩
    · exact ⟨0, 0, rfl, by decide, by decide, by decide, by decide⟩
    · exact ⟨999993, 18271, rfl, by decide, by decide, by decide, by decide⟩
    · exact ⟨41, 700, rfl, by decide, by decide, by decide, by decide⟩
  refine ⟨b1, b2, sheetsL, rfl, k1, k2, k3, k4, by decide, by decide, fun s hs => sheets_ok hs, by unfold lim; simp only; omega, fun x y u v w sh t2 O hi h3 h4 => ?_⟩
  simp only at h3 h4 ⊢
  refine ⟨b1, b2, sheetsL, rfl, k1, k2, k3, k4, by decide, by decide, fun s hs => sheets_ok hs, by unfold lim; simp only; omega, fun x' y' u' v' w' sh' t3 O' hi' h5 h6 => ?_⟩
  simp only at h5 h6 ⊢
  refine ⟨8, rfl, by decide, by decide, by unfold lim; simp only; omega, fun c t4 p1 p2 h7 h8 => ?_⟩
  simp only [gEq, eqD, scEq] at h7 h8 ⊢
  have si := sheets_in hi
  by_cases c0 : c = 0
  · simp only [decide_eq_true c0]
    simp only [areaT, gIx0, gIx1, gIx2, gIx3]
    refine ⟨x, y, u, v, w, sh, rfl, O, si, by unfold lim; simp only; omega, fun t5 h9 h10 => ?_⟩
    simp only [Bool.not_true] at h9 h10 ⊢
    refine ⟨x, y, u, v, w, sh, y, x, u, v, w, sh, rfl, O, ⟨O.y, O.x, O.u, O.v, O.w, O.s⟩, ?_⟩
    simp only [Bool.not_true]
    refine ⟨x, y, u, v, w, sh, b1, b2, rfl, O, ⟨k1, k2, k3, k4⟩, by unfold lim; simp only; omega, fun t6 h11 h12 => ?_⟩
    simp only [Bool.not_true] at h11 h12 ⊢
    refine ⟨x, y, u, v, w, sh, rfl, O, by unfold lim; simp only; omega, fun t7 h13 h14 => ?_⟩
    simp only [Bool.not_true] at h13 h14 ⊢
    exact H _ _ _ _ t7 (by omega) (by omega)
  · simp only [decide_eq_false c0]
    refine ⟨x, y, u, v, w, sh, rfl, O, si, by unfold lim; simp only; omega, fun t5 h9 h10 => ?_⟩
    simp only [Bool.not_true] at h9 h10 ⊢
    refine ⟨x, y, u, v, w, sh, x', y', u', v', w', sh', rfl, O, O', ?_⟩
    simp only [Bool.not_true]
    refine ⟨x, y, u, v, w, sh, b1, b2, rfl, O, ⟨k1, k2, k3, k4⟩, by unfold lim; simp only; omega, fun t6 h11 h12 => ?_⟩
    simp only [Bool.not_true] at h11 h12 ⊢
    refine ⟨x, y, u, v, w, sh, rfl, O, by unfold lim; simp only; omega, fun t7 h13 h14 => ?_⟩
    simp only [Bool.not_true] at h13 h14 ⊢
    exact H _ _ _ _ t7 (by omega) (by omega)
theorem p_law (T : Txt P K mg A) (cs : List Int) : t_law K A cs { nx := fun _ _ => False, rt := fun d _ => d = .bl true } (none :: some .pen :: List.replicate 5 none) ⟨0, fun _ => none⟩ := by
  unfold t_law
  simp only [dSeq, dFor, diRange1, dCons, dC, dNil, List.replicate]
  refine ⟨by decide, by decide, ?_⟩
  have er : rangeD 0 (2 : Int).toNat = [.int 0, .int 1] := rfl
  rw [er]
  simp only [dForL, dgName]
  refine law_body T cs (by decide) fun y3 y4 y5 y6 t h1 h2 => ?_
  refine law_body T cs (by omega) fun y3 y4 y5 y6 t' h3 h4 => ?_
  exact rfl
end
end K17

set_option Elab.async false
set_option linter.all false
set_option maxRecDepth 100000
set_option maxHeartbeats 8000000
set_option autoImplicit false
namespace K17
open PySem PySem.Spec PyProof.Rows L2 DL
section
variable {P : Program} {w : World} {K : PySem.W.Frag} {mg : Str → Option Value} {base : Heap} {A : Ad} {pn : Addr} {cs : List Int} {Tb : List (Addr × Str)}
theorem b__law_draw (T : Txt P K mg A)  (f : Addr) (cdv : Value) (A0 : Around) (outer : List Env) (s0 : Shared) (H : Hp) (E : XK) (hr : Room 1 (A0.deeper (envOfC "_law_draw" (defScope (top 38)) s0.heap.objs.size f cdv))) :
    PSs (XC P w K mg base N__law_draw "_law_draw" (top 38) f cdv A0 outer s0 H E) (defBody (top 38)) (liftS (MM K Tb pn cs) (fun cls d _ H' => E cls d H') (t__law_draw K A cs)) := by
  have tk : Takes (XC P w K mg base N__law_draw "_law_draw" (top 38) f cdv A0 outer s0 H E) (fun cls d _ H => E cls d H) := takes_of rfl rfl rfl rfl
  have hp : PassesOwn (model P w) (XC P w K mg base N__law_draw "_law_draw" (top 38) f cdv A0 outer s0 H E).A (XC P w K mg base N__law_draw "_law_draw" (top 38) f cdv A0 outer s0 H E).env (XC P w K mg base N__law_draw "_law_draw" (top 38) f cdv A0 outer s0 H E).xe := passes_of rfl
  exact (dss_cons (ds_if (dt_cmp op_geX dr_ord (dp_penl KO (hu_of hr) (dp_var (pv 0)) pe_str (fun _ _ => rfl)) (dp_var (pv 1)) (nomark _)) (dss_cons (ds_set (ps_set (i := 2) sc__law_draw.nd rfl (Or.inl rfl) (dp_mod (dp_bty (call_int1) (drc_int) (by rfl) T.n_int PyProof.Rows.boot_int (da_cons (dp_penl KO (hu_of hr) (dp_var (pv 0)) pe_str (fun _ _ => rfl)) da_nil)) (dp_var (pv 1)))))
      (dss_cons (ds_putl KO (hu_of hr) (dp_var (pv 0)) pe_str (dp_div (dp_penl KO (hu_of hr) (dp_var (pv 0)) pe_str (fun _ _ => rfl)) (dp_var (pv 1))))
      (dss_one (ds_ret (dp_var (pv 2)))))) dss_nil)
      (dss_cons (ds_set (ps_set (i := 3) sc__law_draw.nd rfl (Or.inl rfl) (dp_pena KO (hu_of hr) (dp_var (pv 0)) pe_str (fun _ _ => rfl))))
      (dss_cons (ds_puta KO (hu_of hr) (dp_var (pv 0)) pe_str (dp_add rfl (dp_var (pv 3)) dp_int))
      (dss_cons (ds_set (ps_set (i := 4) sc__law_draw.nd rfl (Or.inl rfl) (dp_add rfl (dp_mul dp_int (dp_var (pv 3))) dp_int)))
      (dss_cons (ds_if (dt_cmp (op_neX rfl (hu64 hr)) dr_ne (dp_penc (hu_of hr) (dp_var (pv 0)) pe_str (fun _ _ => rfl)) (dp_lst da_nil) (nomark _)) (dss_one (ds_set (ps_set (i := 4) sc__law_draw.nd rfl (Or.inl rfl) (dp_ix rfl (dp_penc (hu_of hr) (dp_var (pv 0)) pe_str (fun _ _ => rfl)) (dp_mod (dp_bty (call_int1) (drc_int) (by rfl) T.n_int PyProof.Rows.boot_int (da_cons (dp_var (pv 3)) da_nil)) (dp_bfn (call_len) (drc_len rfl) (by rfl) T.n_len PySem.boot_len (da_cons (dp_penc (hu_of hr) (dp_var (pv 0)) pe_str (fun _ _ => rfl)) da_nil))))))) dss_nil)
      (dss_cons (ds_if (dt_w (dw_and (dt_cmp op_ltX dr_ord (dp_var (pv 3)) (dp_bfn (call_len) (drc_len rfl) (by rfl) T.n_len PySem.boot_len (da_cons (dp_penc (hu_of hr) (dp_var (pv 0)) pe_str (fun _ _ => rfl)) da_nil)) (nomark _)) (dw_and1 (dt_cmp op_geX dr_ord (dp_var (pv 4)) (dp_pow dp_int dp_int) (nomark _))))) (dss_cons (ds_putl KO (hu_of hr) (dp_var (pv 0)) pe_str (dp_div (dp_sub (dp_var (pv 4)) (dp_pow dp_int dp_int)) (dp_var (pv 1))))
      (dss_one (ds_ret (dp_mod (dp_bty (call_int1) (drc_int) (by rfl) T.n_int PyProof.Rows.boot_int (da_cons (dp_sub (dp_var (pv 4)) (dp_pow dp_int dp_int)) da_nil)) (dp_var (pv 1)))))) dss_nil)
      (dss_cons (ds_set (ps_set (i := 5) sc__law_draw.nd rfl (Or.inl rfl) (dp_add rfl (dp_mul (dp_mod (dp_bty (call_int1) (drc_int) (by rfl) T.n_int PyProof.Rows.boot_int (da_cons (dp_var (pv 4)) da_nil)) dp_int) dp_int) (dp_mul (dp_mul dp_int (dp_var (pv 3))) (dp_var (pv 3))))))
      (dss_cons (ds_set (ps_set (i := 5) sc__law_draw.nd rfl (Or.inl rfl) (dp_mod (dp_bty (call_int1) (drc_int) (by rfl) T.n_int PyProof.Rows.boot_int (da_cons (dp_add rfl (dp_add rfl (dp_var (pv 5)) (dp_mul dp_int (dp_var (pv 3)))) dp_int) da_nil)) dp_int)))
      (dss_cons (ds_set (ps_set (i := 5) sc__law_draw.nd rfl (Or.inl rfl) (dp_mod (dp_bty (call_int1) (drc_int) (by rfl) T.n_int PyProof.Rows.boot_int (da_cons (dp_add rfl (dp_mul (dp_var (pv 5)) (dp_add rfl (dp_var (pv 5)) dp_int)) (dp_mul dp_int (dp_var (pv 3)))) da_nil)) dp_int)))
      (dss_one (ds_ret (dp_mod (dp_bty (call_int1) (drc_int) (by rfl) T.n_int PyProof.Rows.boot_int (da_cons (dp_div (dp_mod (dp_bty (call_int1) (drc_int) (by rfl) T.n_int PyProof.Rows.boot_int (da_cons (dp_add rfl (dp_mul (dp_var (pv 5)) (dp_var (pv 5))) (dp_mul dp_int (dp_var (pv 5)))) da_nil)) dp_int) dp_int) da_nil)) (dp_var (pv 1))))))))))))))
theorem b__law_pick (T : Txt P K mg A) (c_law_draw : CalD P w K mg base (MM K Tb pn cs) 2 "_law_draw" ["_law_pen_here", "_law_span"] (s__law_draw A)) (f : Addr) (cdv : Value) (A0 : Around) (outer : List Env) (s0 : Shared) (H : Hp) (E : XK) (hr : Room 2 (A0.deeper (envOfC "_law_pick" (defScope (top 39)) s0.heap.objs.size f cdv))) :
    PSs (XC P w K mg base N__law_pick "_law_pick" (top 39) f cdv A0 outer s0 H E) (defBody (top 39)) (liftS (MM K Tb pn cs) (fun cls d _ H' => E cls d H') (t__law_pick K A cs)) := by
  have tk : Takes (XC P w K mg base N__law_pick "_law_pick" (top 39) f cdv A0 outer s0 H E) (fun cls d _ H => E cls d H) := takes_of rfl rfl rfl rfl
  have hp : PassesOwn (model P w) (XC P w K mg base N__law_pick "_law_pick" (top 39) f cdv A0 outer s0 H E).A (XC P w K mg base N__law_pick "_law_pick" (top 39) f cdv A0 outer s0 H E).env (XC P w K mg base N__law_pick "_law_pick" (top 39) f cdv A0 outer s0 H E).xe := passes_of rfl
  exact (dss_one (ds_ret (dp_ix rfl (dp_var (pv 1)) (dp_cal (by exact c_law_draw) (by exact hr) (by decide) (by exact tk) (by rfl) (da_cons (dp_var (pv 0)) (da_cons (dp_bfn (call_len) (drc_len rfl) (by rfl) T.n_len PySem.boot_len (da_cons (dp_var (pv 1)) da_nil)) da_nil))))))
theorem b__law_corners (T : Txt P K mg A) (c_law_draw : CalD P w K mg base (MM K Tb pn cs) 2 "_law_draw" ["_law_pen_here", "_law_span"] (s__law_draw A)) (f : Addr) (cdv : Value) (A0 : Around) (outer : List Env) (s0 : Shared) (H : Hp) (E : XK) (hr : Room 2 (A0.deeper (envOfC "_law_corners" (defScope (top 43)) s0.heap.objs.size f cdv))) :
    PSs (XC P w K mg base N__law_corners "_law_corners" (top 43) f cdv A0 outer s0 H E) (defBody (top 43)) (liftS (MM K Tb pn cs) (fun cls d _ H' => E cls d H') (t__law_corners K A cs)) := by
  have tk : Takes (XC P w K mg base N__law_corners "_law_corners" (top 43) f cdv A0 outer s0 H E) (fun cls d _ H => E cls d H) := takes_of rfl rfl rfl rfl
  have hp : PassesOwn (model P w) (XC P w K mg base N__law_corners "_law_corners" (top 43) f cdv A0 outer s0 H E).A (XC P w K mg base N__law_corners "_law_corners" (top 43) f cdv A0 outer s0 H E).env (XC P w K mg base N__law_corners "_law_corners" (top 43) f cdv A0 outer s0 H E).xe := passes_of rfl
  exact (dss_cons (ds_set (ps_set (i := 2) sc__law_corners.nd rfl (Or.inr rfl) (dp_add rfl dp_int (dp_mul (dp_cal (by exact c_law_draw) (by exact hr) (by decide) (by exact tk) (by rfl) (da_cons (dp_var (pv 0)) (da_cons dp_int da_nil))) dp_int))))
      (dss_cons (ds_setLc (ps_setLc (own := [("_law_turn", 4)]) (i := 3) rfl sc__law_corners.nd rfl rfl (by with_unfolding_all rfl) (di_range1 (pi_range1 (by rfl) T.n_range (da_cons dp_int da_nil))) (blkOk_by (N := N__law_corners) (sc := defScope (top 43)) (by decide +kernel)) (fun s H C cl fp => dg_of (pg_name (i := 4) sc__law_corners.nd rfl (Or.inl rfl)) List.mem_cons_self) (fun s H C cl fp => by exact dts_nil) (fun s H C cl fp => by exact (dp_tup (da_cons (dp_add rfl (dp_add rfl (dp_ix rfl (dp_var (pv 1)) dp_int) dp_int) (dp_cal (by exact c_law_draw) (by exact hr) (by decide) (by exact LamX.takes0) (by rfl) (da_cons (dp_var (pv 0)) (da_cons (dp_var (pv 2)) da_nil)))) (da_cons (dp_cmp (op_eqX rfl (hu64 hr)) dr_eq (dp_cal (by exact c_law_draw) (by exact hr) (by decide) (by exact LamX.takes0) (by rfl) (da_cons (dp_var (pv 0)) (da_cons dp_int da_nil))) dp_int (nomark _)) da_nil))))))
      (dss_cons (ds_setLc (ps_setLc (own := [("_law_turn", 4)]) (i := 5) rfl sc__law_corners.nd rfl rfl (by with_unfolding_all rfl) (di_range1 (pi_range1 (by rfl) T.n_range (da_cons dp_int da_nil))) (blkOk_by (N := N__law_corners) (sc := defScope (top 43)) (by decide +kernel)) (fun s H C cl fp => dg_of (pg_name (i := 4) sc__law_corners.nd rfl (Or.inl rfl)) List.mem_cons_self) (fun s H C cl fp => by exact dts_nil) (fun s H C cl fp => by exact (dp_tup (da_cons (dp_add rfl (dp_add rfl (dp_ix rfl (dp_var (pv 1)) dp_int) dp_int) (dp_cal (by exact c_law_draw) (by exact hr) (by decide) (by exact LamX.takes0) (by rfl) (da_cons (dp_var (pv 0)) (da_cons (dp_var (pv 2)) da_nil)))) (da_cons (dp_cmp (op_eqX rfl (hu64 hr)) dr_eq (dp_cal (by exact c_law_draw) (by exact hr) (by decide) (by exact LamX.takes0) (by rfl) (da_cons (dp_var (pv 0)) (da_cons dp_int da_nil))) dp_int (nomark _)) da_nil))))))
      (dss_one (ds_ret (dp_tup (da_cons (dp_var (pv 3)) (da_cons (dp_var (pv 5)) da_nil))))))))
theorem b__law_area (T : Txt P K mg A) (c_law_corners : CalD P w K mg base (MM K Tb pn cs) 3 "_law_corners" ["_law_pen_here", "_law_base"] (s__law_corners A)) (c_law_pick : CalD P w K mg base (MM K Tb pn cs) 3 "_law_pick" ["_law_pen_here", "_law_menu"] (s__law_pick A)) (f : Addr) (cdv : Value) (A0 : Around) (outer : List Env) (s0 : Shared) (H : Hp) (E : XK) (hr : Room 3 (A0.deeper (envOfC "_law_area" (defScope (top 45)) s0.heap.objs.size f cdv))) :
    PSs (XC P w K mg base N__law_area "_law_area" (top 45) f cdv A0 outer s0 H E) (defBody (top 45)) (liftS (MM K Tb pn cs) (fun cls d _ H' => E cls d H') (t__law_area K A cs)) := by
  have tk : Takes (XC P w K mg base N__law_area "_law_area" (top 45) f cdv A0 outer s0 H E) (fun cls d _ H => E cls d H) := takes_of rfl rfl rfl rfl
  have hp : PassesOwn (model P w) (XC P w K mg base N__law_area "_law_area" (top 45) f cdv A0 outer s0 H E).A (XC P w K mg base N__law_area "_law_area" (top 45) f cdv A0 outer s0 H E).env (XC P w K mg base N__law_area "_law_area" (top 45) f cdv A0 outer s0 H E).xe := passes_of rfl
  exact (dss_cons (ds_asg (vs := [3, 4]) (ps_asg (dp_cal (by exact c_law_corners) (by exact hr) (by decide) (by exact tk) (by rfl) (da_cons (dp_var (pv 0)) (da_cons (dp_var (pv 1)) da_nil))) (dg_tup rfl rfl (dgs_cons (dg_of (pg_name (i := 3) sc__law_area.nd rfl (Or.inl rfl)) (by decide)) (dgs_cons (dg_of (pg_name (i := 4) sc__law_area.nd rfl (Or.inl rfl)) (by decide)) dgs_nil)))))
      (dss_cons (ds_set (ps_set (i := 5) sc__law_area.nd rfl (Or.inl rfl) (dp_cal (by exact c_law_pick) (by exact hr) (by decide) (by exact tk) (by rfl) (da_cons (dp_var (pv 0)) (da_cons (dp_lst (da_cons dp_non (da_cons dp_non (da_cons dp_non (da_cons (dp_str [99, 111, 108, 117, 109, 110, 115]) (da_cons (dp_str [114, 111, 119, 115]) da_nil)))))) da_nil)))))
      (dss_one (ds_ret (dp_tup (da_cons (dp_var (pv 3)) (da_cons (dp_var (pv 4)) (da_cons (dp_var (pv 5)) (da_cons (dp_cal (by exact c_law_pick) (by exact hr) (by decide) (by exact tk) (by rfl) (da_cons (dp_var (pv 0)) (da_cons (dp_var (pv 2)) da_nil))) da_nil)))))))))
theorem b_is_integer (T : Txt P K mg A)  (f : Addr) (cdv : Value) (A0 : Around) (outer : List Env) (s0 : Shared) (H : Hp) (E : XK) (hr : Room 1 (A0.deeper (envOfC "is_integer" (defScope (top 8)) s0.heap.objs.size f cdv))) :
    PSs (XC P w K mg base N_is_integer "is_integer" (top 8) f cdv A0 outer s0 H E) (defBody (top 8)) (liftS (MM K Tb pn cs) (fun cls d _ H' => E cls d H') (t_is_integer K A cs)) := by
  have tk : Takes (XC P w K mg base N_is_integer "is_integer" (top 8) f cdv A0 outer s0 H E) (fun cls d _ H => E cls d H) := takes_of rfl rfl rfl rfl
  have hp : PassesOwn (model P w) (XC P w K mg base N_is_integer "is_integer" (top 8) f cdv A0 outer s0 H E).A (XC P w K mg base N_is_integer "is_integer" (top 8) f cdv A0 outer s0 H E).env (XC P w K mg base N_is_integer "is_integer" (top 8) f cdv A0 outer s0 H E).xe := passes_of rfl
  exact (dss_one (ds_ret (dp_and (dp_bfn (call_isi) (drc_isi rfl) (by rfl) T.n_isinstance PyProof.Rows.boot_isinstance (da_cons (dp_var (pv 0)) (da_cons (dp_ty (by rfl) (by exact T.n_int) PyProof.Rows.boot_int) da_nil))) (dp_one (dp_not (dp_bfn (call_isi) (drc_isi rfl) (by rfl) T.n_isinstance PyProof.Rows.boot_isinstance (da_cons (dp_var (pv 0)) (da_cons (dp_ty (by rfl) (by exact T.n_bool) PyProof.Rows.boot_bool) da_nil))))))))
theorem b_need_integer (T : Txt P K mg A) (cis_integer : CalD P w K mg base (MM K Tb pn cs) 2 "is_integer" ["value"] (s_is_integer A)) (f : Addr) (cdv : Value) (A0 : Around) (outer : List Env) (s0 : Shared) (H : Hp) (E : XK) (hr : Room 2 (A0.deeper (envOfC "need_integer" (defScope (top 9)) s0.heap.objs.size f cdv))) :
    PSs (XC P w K mg base N_need_integer "need_integer" (top 9) f cdv A0 outer s0 H E) (defBody (top 9)) (liftS (MM K Tb pn cs) (fun cls d _ H' => E cls d H') (t_need_integer K A cs)) := by
  have tk : Takes (XC P w K mg base N_need_integer "need_integer" (top 9) f cdv A0 outer s0 H E) (fun cls d _ H => E cls d H) := takes_of rfl rfl rfl rfl
  have hp : PassesOwn (model P w) (XC P w K mg base N_need_integer "need_integer" (top 9) f cdv A0 outer s0 H E).A (XC P w K mg base N_need_integer "need_integer" (top 9) f cdv A0 outer s0 H E).env (XC P w K mg base N_need_integer "need_integer" (top 9) f cdv A0 outer s0 H E).xe := passes_of rfl
  exact (dss_one (ds_if (dt_not (dt_val (dp_cal (by exact cis_integer) (by exact hr) (by decide) (by exact tk) (by rfl) (da_cons (dp_var (pv 0)) da_nil)))) (dss_one (ds_raise (ps_raiseErr rfl T.e_BadValue hr tk (da_cons (dp_var (pv 0)) da_nil) (by rfl) (by decide)))) dss_nil))
theorem b_need_truth (T : Txt P K mg A)  (f : Addr) (cdv : Value) (A0 : Around) (outer : List Env) (s0 : Shared) (H : Hp) (E : XK) (hr : Room 1 (A0.deeper (envOfC "need_truth" (defScope (top 10)) s0.heap.objs.size f cdv))) :
    PSs (XC P w K mg base N_need_truth "need_truth" (top 10) f cdv A0 outer s0 H E) (defBody (top 10)) (liftS (MM K Tb pn cs) (fun cls d _ H' => E cls d H') (t_need_truth K A cs)) := by
  have tk : Takes (XC P w K mg base N_need_truth "need_truth" (top 10) f cdv A0 outer s0 H E) (fun cls d _ H => E cls d H) := takes_of rfl rfl rfl rfl
  have hp : PassesOwn (model P w) (XC P w K mg base N_need_truth "need_truth" (top 10) f cdv A0 outer s0 H E).A (XC P w K mg base N_need_truth "need_truth" (top 10) f cdv A0 outer s0 H E).env (XC P w K mg base N_need_truth "need_truth" (top 10) f cdv A0 outer s0 H E).xe := passes_of rfl
  exact (dss_one (ds_if (dt_not (dt_val (dp_bfn (call_isi) (drc_isi rfl) (by rfl) T.n_isinstance PyProof.Rows.boot_isinstance (da_cons (dp_var (pv 0)) (da_cons (dp_ty (by rfl) (by exact T.n_bool) PyProof.Rows.boot_bool) da_nil))))) (dss_one (ds_raise (ps_raiseErr rfl T.e_BadValue hr tk (da_cons (dp_var (pv 0)) da_nil) (by rfl) (by decide)))) dss_nil))
theorem b_is_letter (T : Txt P K mg A)  (f : Addr) (cdv : Value) (A0 : Around) (outer : List Env) (s0 : Shared) (H : Hp) (E : XK) (hr : Room 1 (A0.deeper (envOfC "is_letter" (defScope (top 13)) s0.heap.objs.size f cdv))) :
    PSs (XC P w K mg base N_is_letter "is_letter" (top 13) f cdv A0 outer s0 H E) (defBody (top 13)) (liftS (MM K Tb pn cs) (fun cls d _ H' => E cls d H') (t_is_letter K A cs)) := by
  have tk : Takes (XC P w K mg base N_is_letter "is_letter" (top 13) f cdv A0 outer s0 H E) (fun cls d _ H => E cls d H) := takes_of rfl rfl rfl rfl
  have hp : PassesOwn (model P w) (XC P w K mg base N_is_letter "is_letter" (top 13) f cdv A0 outer s0 H E).A (XC P w K mg base N_is_letter "is_letter" (top 13) f cdv A0 outer s0 H E).env (XC P w K mg base N_is_letter "is_letter" (top 13) f cdv A0 outer s0 H E).xe := passes_of rfl
  exact (dss_one (ds_ret (dp_or (dp_chain op_leX dr_ord op_leX dr_ord (dp_str [97]) (dp_var (pv 0)) (dp_str [122])) (dp_one (dp_chain op_leX dr_ord op_leX dr_ord (dp_str [65]) (dp_var (pv 0)) (dp_str [90]))))))
theorem b_is_digit (T : Txt P K mg A)  (f : Addr) (cdv : Value) (A0 : Around) (outer : List Env) (s0 : Shared) (H : Hp) (E : XK) (hr : Room 1 (A0.deeper (envOfC "is_digit" (defScope (top 12)) s0.heap.objs.size f cdv))) :
    PSs (XC P w K mg base N_is_digit "is_digit" (top 12) f cdv A0 outer s0 H E) (defBody (top 12)) (liftS (MM K Tb pn cs) (fun cls d _ H' => E cls d H') (t_is_digit K A cs)) := by
  have tk : Takes (XC P w K mg base N_is_digit "is_digit" (top 12) f cdv A0 outer s0 H E) (fun cls d _ H => E cls d H) := takes_of rfl rfl rfl rfl
  have hp : PassesOwn (model P w) (XC P w K mg base N_is_digit "is_digit" (top 12) f cdv A0 outer s0 H E).A (XC P w K mg base N_is_digit "is_digit" (top 12) f cdv A0 outer s0 H E).env (XC P w K mg base N_is_digit "is_digit" (top 12) f cdv A0 outer s0 H E).xe := passes_of rfl
  exact (dss_one (ds_ret (dp_chain op_leX dr_ord op_leX dr_ord (dp_str [48]) (dp_var (pv 0)) (dp_str [57]))))
theorem b_is_sheet_word (T : Txt P K mg A) (cis_digit : CalD P w K mg base (MM K Tb pn cs) 2 "is_digit" ["sign"] (s_is_digit A)) (cis_letter : CalD P w K mg base (MM K Tb pn cs) 2 "is_letter" ["sign"] (s_is_letter A)) (f : Addr) (cdv : Value) (A0 : Around) (outer : List Env) (s0 : Shared) (H : Hp) (E : XK) (hr : Room 2 (A0.deeper (envOfC "is_sheet_word" (defScope (top 15)) s0.heap.objs.size f cdv))) :
    PSs (XC P w K mg base N_is_sheet_word "is_sheet_word" (top 15) f cdv A0 outer s0 H E) (defBody (top 15)) (liftS (MM K Tb pn cs) (fun cls d _ H' => E cls d H') (t_is_sheet_word K A cs)) := by
  have tk : Takes (XC P w K mg base N_is_sheet_word "is_sheet_word" (top 15) f cdv A0 outer s0 H E) (fun cls d _ H => E cls d H) := takes_of rfl rfl rfl rfl
  have hp : PassesOwn (model P w) (XC P w K mg base N_is_sheet_word "is_sheet_word" (top 15) f cdv A0 outer s0 H E).A (XC P w K mg base N_is_sheet_word "is_sheet_word" (top 15) f cdv A0 outer s0 H E).env (XC P w K mg base N_is_sheet_word "is_sheet_word" (top 15) f cdv A0 outer s0 H E).xe := passes_of rfl
  exact (dss_one (ds_ret (dp_and (dp_chain op_leX dr_ord op_leX dr_ord dp_int (dp_bfn (call_len) (drc_len rfl) (by rfl) T.n_len PySem.boot_len (da_cons (dp_var (pv 0)) da_nil)) dp_int) (dp_and (dp_cal (by exact cis_letter) (by exact hr) (by decide) (by exact tk) (by rfl) (da_cons (dp_ix rfl (dp_var (pv 0)) dp_int) da_nil)) (dp_one (dp_bfn (cr_all rfl) (drc_all rfl) (by rfl) T.n_all PyProof.Rows.boot_all (da_cons (dp_lc (pe_lc (own := [("sign", 1)]) rfl sc_is_sheet_word.nd (di_list rfl (dp_var (pv 0))) (blkOk_by (N := N_is_sheet_word) (sc := defScope (top 15)) (by decide +kernel)) (fun s H C cl fp => dg_of (pg_name (i := 1) sc_is_sheet_word.nd rfl (Or.inl rfl)) List.mem_cons_self) (fun s H C cl fp => by exact dts_nil) (fun s H C cl fp => by exact (dp_or (dp_cal (by exact cis_letter) (by exact hr) (by decide) (by exact LamX.takes0) (by rfl) (da_cons (dp_var (pv 1)) da_nil)) (dp_one (dp_cal (by exact cis_digit) (by exact hr) (by decide) (by exact LamX.takes0) (by rfl) (da_cons (dp_var (pv 1)) da_nil))))))) da_nil)))))))
theorem b_need_sheet_word (T : Txt P K mg A) (cis_sheet_word : CalD P w K mg base (MM K Tb pn cs) 3 "is_sheet_word" ["word"] (s_is_sheet_word A)) (f : Addr) (cdv : Value) (A0 : Around) (outer : List Env) (s0 : Shared) (H : Hp) (E : XK) (hr : Room 3 (A0.deeper (envOfC "need_sheet_word" (defScope (top 20)) s0.heap.objs.size f cdv))) :
    PSs (XC P w K mg base N_need_sheet_word "need_sheet_word" (top 20) f cdv A0 outer s0 H E) (defBody (top 20)) (liftS (MM K Tb pn cs) (fun cls d _ H' => E cls d H') (t_need_sheet_word K A cs)) := by
  have tk : Takes (XC P w K mg base N_need_sheet_word "need_sheet_word" (top 20) f cdv A0 outer s0 H E) (fun cls d _ H => E cls d H) := takes_of rfl rfl rfl rfl
  have hp : PassesOwn (model P w) (XC P w K mg base N_need_sheet_word "need_sheet_word" (top 20) f cdv A0 outer s0 H E).A (XC P w K mg base N_need_sheet_word "need_sheet_word" (top 20) f cdv A0 outer s0 H E).env (XC P w K mg base N_need_sheet_word "need_sheet_word" (top 20) f cdv A0 outer s0 H E).xe := passes_of rfl
  exact (dss_one (ds_if (dt_w (dw_and (dt_cmp op_notN dr_notN (dp_var (pv 0)) dp_non (nomark _)) (dw_and1 (dt_not (dt_w (dw_and (dt_val (dp_bfn (call_isi) (drc_isi rfl) (by rfl) T.n_isinstance PyProof.Rows.boot_isinstance (da_cons (dp_var (pv 0)) (da_cons (dp_ty (by rfl) (by exact T.n_str) PyProof.Rows.boot_str) da_nil)))) (dw_and1 (dt_val (dp_cal (by exact cis_sheet_word) (by exact hr) (by decide) (by exact tk) (by rfl) (da_cons (dp_var (pv 0)) da_nil)))))))))) (dss_one (ds_raise (ps_raiseErr rfl T.e_BadValue hr tk (da_cons (dp_var (pv 0)) da_nil) (by rfl) (by decide)))) dss_nil))
theorem b_is_on_grid (T : Txt P K mg A)  (f : Addr) (cdv : Value) (A0 : Around) (outer : List Env) (s0 : Shared) (H : Hp) (E : XK) (hr : Room 1 (A0.deeper (envOfC "is_on_grid" (defScope (top 19)) s0.heap.objs.size f cdv))) :
    PSs (XC P w K mg base N_is_on_grid "is_on_grid" (top 19) f cdv A0 outer s0 H E) (defBody (top 19)) (liftS (MM K Tb pn cs) (fun cls d _ H' => E cls d H') (t_is_on_grid K A cs)) := by
  have tk : Takes (XC P w K mg base N_is_on_grid "is_on_grid" (top 19) f cdv A0 outer s0 H E) (fun cls d _ H => E cls d H) := takes_of rfl rfl rfl rfl
  have hp : PassesOwn (model P w) (XC P w K mg base N_is_on_grid "is_on_grid" (top 19) f cdv A0 outer s0 H E).A (XC P w K mg base N_is_on_grid "is_on_grid" (top 19) f cdv A0 outer s0 H E).env (XC P w K mg base N_is_on_grid "is_on_grid" (top 19) f cdv A0 outer s0 H E).xe := passes_of rfl
  exact (dss_one (ds_ret (dp_and (dp_chain op_leX dr_ord op_leX dr_ord dp_int (dp_var (pv 0)) (dp_gi T.g_MOST_ROWS rfl)) (dp_one (dp_chain op_leX dr_ord op_leX dr_ord dp_int (dp_var (pv 1)) (dp_gi T.g_MOST_COLUMNS rfl))))))
theorem b_Address_init (T : Txt P K mg A) (cis_on_grid : CalD P w K mg base (MM K Tb pn cs) 2 "is_on_grid" ["row", "column"] (s_is_on_grid A)) (cneed_integer : CalD P w K mg base (MM K Tb pn cs) 3 "need_integer" ["value"] (s_need_integer A)) (cneed_sheet_word : CalD P w K mg base (MM K Tb pn cs) 4 "need_sheet_word" ["sheet"] (s_need_sheet_word A)) (cneed_truth : CalD P w K mg base (MM K Tb pn cs) 2 "need_truth" ["value"] (s_need_truth A)) (f : Addr) (cdv : Value) (A0 : Around) (outer : List Env) (s0 : Shared) (H : Hp) (E : XK) (hr : Room 4 (A0.deeper (envOfC "Address.__init__" (defScope (inClass (top 22) 0)) s0.heap.objs.size f cdv))) :
    PSs (XC P w K mg base N_Address_init "Address.__init__" (inClass (top 22) 0) f cdv A0 outer s0 H E) (defBody (inClass (top 22) 0)) (liftS (MM K Tb pn cs) (fun cls d _ H' => E cls d H') (t_Address_init K A cs)) := by
  have tk : Takes (XC P w K mg base N_Address_init "Address.__init__" (inClass (top 22) 0) f cdv A0 outer s0 H E) (fun cls d _ H => E cls d H) := takes_of rfl rfl rfl rfl
  have hp : PassesOwn (model P w) (XC P w K mg base N_Address_init "Address.__init__" (inClass (top 22) 0) f cdv A0 outer s0 H E).A (XC P w K mg base N_Address_init "Address.__init__" (inClass (top 22) 0) f cdv A0 outer s0 H E).env (XC P w K mg base N_Address_init "Address.__init__" (inClass (top 22) 0) f cdv A0 outer s0 H E).xe := passes_of rfl
  exact (dss_cons (ds_expr (dp_cal (by exact cneed_integer) (by exact hr) (by decide) (by exact tk) (by rfl) (da_cons (dp_var (pv 1)) da_nil)))
      (dss_cons (ds_expr (dp_cal (by exact cneed_integer) (by exact hr) (by decide) (by exact tk) (by rfl) (da_cons (dp_var (pv 2)) da_nil)))
      (dss_cons (ds_expr (dp_cal (by exact cneed_truth) (by exact hr) (by decide) (by exact tk) (by rfl) (da_cons (dp_var (pv 3)) da_nil)))
      (dss_cons (ds_expr (dp_cal (by exact cneed_truth) (by exact hr) (by decide) (by exact tk) (by rfl) (da_cons (dp_var (pv 4)) da_nil)))
      (dss_cons (ds_expr (dp_cal (by exact cneed_sheet_word) (by exact hr) (by decide) (by exact tk) (by rfl) (da_cons (dp_var (pv 5)) da_nil)))
      (dss_cons (ds_if (dt_not (dt_val (dp_cal (by exact cis_on_grid) (by exact hr) (by decide) (by exact tk) (by rfl) (da_cons (dp_var (pv 1)) (da_cons (dp_var (pv 2)) da_nil))))) (dss_one (ds_raise2 (ps_raiseErr2 rfl T.e_OffGrid hr tk (da_cons (dp_var (pv 1)) (da_cons (dp_var (pv 2)) da_nil)) (by rfl) (by decide)))) dss_nil)
      (dss_cons (ds_asg (vs := []) (ps_asg (dp_tup (da_cons (dp_var (pv 1)) (da_cons (dp_var (pv 2)) da_nil))) (dg_tup rfl rfl (dgs_cons (dg_fld (W := W0) T.fl_row (dp_var (pv 0))) (dgs_cons (dg_fld (W := W0) T.fl_column (dp_var (pv 0))) dgs_nil)))))
      (dss_cons (ds_asg (vs := []) (ps_asg (dp_tup (da_cons (dp_var (pv 3)) (da_cons (dp_var (pv 4)) da_nil))) (dg_tup rfl rfl (dgs_cons (dg_fld (W := W0) T.fl_fixed_row (dp_var (pv 0))) (dgs_cons (dg_fld (W := W0) T.fl_fixed_column (dp_var (pv 0))) dgs_nil)))))
      (dss_one (ds_asg (vs := []) (ps_asg (dp_var (pv 5)) (dg_fld (W := W0) T.fl_sheet (dp_var (pv 0))))))))))))))
theorem b_need_address (T : Txt P K mg A)  (f : Addr) (cdv : Value) (A0 : Around) (outer : List Env) (s0 : Shared) (H : Hp) (E : XK) (hr : Room 1 (A0.deeper (envOfC "need_address" (defScope (top 23)) s0.heap.objs.size f cdv))) :
    PSs (XC P w K mg base N_need_address "need_address" (top 23) f cdv A0 outer s0 H E) (defBody (top 23)) (liftS (MM K Tb pn cs) (fun cls d _ H' => E cls d H') (t_need_address K A cs)) := by
  have tk : Takes (XC P w K mg base N_need_address "need_address" (top 23) f cdv A0 outer s0 H E) (fun cls d _ H => E cls d H) := takes_of rfl rfl rfl rfl
  have hp : PassesOwn (model P w) (XC P w K mg base N_need_address "need_address" (top 23) f cdv A0 outer s0 H E).A (XC P w K mg base N_need_address "need_address" (top 23) f cdv A0 outer s0 H E).env (XC P w K mg base N_need_address "need_address" (top 23) f cdv A0 outer s0 H E).xe := passes_of rfl
  exact (dss_one (ds_if (dt_not (dt_val (dp_bfn (call_isi) (drc_isi rfl) (by rfl) T.n_isinstance PyProof.Rows.boot_isinstance (da_cons (dp_var (pv 0)) (da_cons (dp_cls (by rfl) (by exact T.c_Address)) da_nil))))) (dss_one (ds_raise (ps_raiseErr rfl T.e_BadValue hr tk (da_cons (dp_var (pv 0)) da_nil) (by rfl) (by decide)))) dss_nil))
theorem b_in_order (T : Txt P K mg A)  (f : Addr) (cdv : Value) (A0 : Around) (outer : List Env) (s0 : Shared) (H : Hp) (E : XK) (hr : Room 1 (A0.deeper (envOfC "in_order" (defScope (top 27)) s0.heap.objs.size f cdv))) :
    PSs (XC P w K mg base N_in_order "in_order" (top 27) f cdv A0 outer s0 H E) (defBody (top 27)) (liftS (MM K Tb pn cs) (fun cls d _ H' => E cls d H') (t_in_order K A cs)) := by
  have tk : Takes (XC P w K mg base N_in_order "in_order" (top 27) f cdv A0 outer s0 H E) (fun cls d _ H => E cls d H) := takes_of rfl rfl rfl rfl
  have hp : PassesOwn (model P w) (XC P w K mg base N_in_order "in_order" (top 27) f cdv A0 outer s0 H E).A (XC P w K mg base N_in_order "in_order" (top 27) f cdv A0 outer s0 H E).env (XC P w K mg base N_in_order "in_order" (top 27) f cdv A0 outer s0 H E).xe := passes_of rfl
  exact (dss_cons (ds_if (dt_cmp (op_lePB rfl (Nat.lt_of_succ_lt (hu_of hr))) dr_leP (dp_tup (da_cons (dp_ix rfl (dp_var (pv 0)) dp_int) (da_cons (dp_not (dp_ix rfl (dp_var (pv 0)) dp_int)) da_nil))) (dp_tup (da_cons (dp_ix rfl (dp_var (pv 1)) dp_int) (da_cons (dp_not (dp_ix rfl (dp_var (pv 1)) dp_int)) da_nil))) (nomark _)) (dss_one (ds_ret (dp_tup (da_cons (dp_var (pv 0)) (da_cons (dp_var (pv 1)) da_nil))))) dss_nil)
      (dss_one (ds_ret (dp_tup (da_cons (dp_var (pv 1)) (da_cons (dp_var (pv 0)) da_nil))))))
theorem b_normal_rows (T : Txt P K mg A) (cin_order : CalD P w K mg base (MM K Tb pn cs) 2 "in_order" ["one", "other"] (s_in_order A)) (f : Addr) (cdv : Value) (A0 : Around) (outer : List Env) (s0 : Shared) (H : Hp) (E : XK) (hr : Room 2 (A0.deeper (envOfC "normal_rows" (defScope (top 28)) s0.heap.objs.size f cdv))) :
    PSs (XC P w K mg base N_normal_rows "normal_rows" (top 28) f cdv A0 outer s0 H E) (defBody (top 28)) (liftS (MM K Tb pn cs) (fun cls d _ H' => E cls d H') (t_normal_rows K A cs)) := by
  have tk : Takes (XC P w K mg base N_normal_rows "normal_rows" (top 28) f cdv A0 outer s0 H E) (fun cls d _ H => E cls d H) := takes_of rfl rfl rfl rfl
  have hp : PassesOwn (model P w) (XC P w K mg base N_normal_rows "normal_rows" (top 28) f cdv A0 outer s0 H E).A (XC P w K mg base N_normal_rows "normal_rows" (top 28) f cdv A0 outer s0 H E).env (XC P w K mg base N_normal_rows "normal_rows" (top 28) f cdv A0 outer s0 H E).xe := passes_of rfl
  exact (dss_cons (ds_if (dt_cmp (op_eqX rfl (hu64 hr)) dr_eq (dp_var (pv 2)) (dp_str [99, 111, 108, 117, 109, 110, 115]) (nomark _)) (dss_one (ds_ret (dp_tup (da_cons (dp_tup (da_cons dp_int (da_cons dp_bl da_nil))) (da_cons (dp_tup (da_cons (dp_gi T.g_MOST_ROWS rfl) (da_cons dp_bl da_nil))) da_nil))))) dss_nil)
      (dss_one (ds_ret (dp_cal (by exact cin_order) (by exact hr) (by decide) (by exact tk) (by rfl) (da_cons (dp_tup (da_cons (dp_fld T.fl_row (dp_var (pv 0))) (da_cons (dp_fld T.fl_fixed_row (dp_var (pv 0))) da_nil))) (da_cons (dp_tup (da_cons (dp_fld T.fl_row (dp_var (pv 1))) (da_cons (dp_fld T.fl_fixed_row (dp_var (pv 1))) da_nil))) da_nil))))))
theorem b_normal_columns (T : Txt P K mg A) (cin_order : CalD P w K mg base (MM K Tb pn cs) 2 "in_order" ["one", "other"] (s_in_order A)) (f : Addr) (cdv : Value) (A0 : Around) (outer : List Env) (s0 : Shared) (H : Hp) (E : XK) (hr : Room 2 (A0.deeper (envOfC "normal_columns" (defScope (top 29)) s0.heap.objs.size f cdv))) :
    PSs (XC P w K mg base N_normal_columns "normal_columns" (top 29) f cdv A0 outer s0 H E) (defBody (top 29)) (liftS (MM K Tb pn cs) (fun cls d _ H' => E cls d H') (t_normal_columns K A cs)) := by
  have tk : Takes (XC P w K mg base N_normal_columns "normal_columns" (top 29) f cdv A0 outer s0 H E) (fun cls d _ H => E cls d H) := takes_of rfl rfl rfl rfl
  have hp : PassesOwn (model P w) (XC P w K mg base N_normal_columns "normal_columns" (top 29) f cdv A0 outer s0 H E).A (XC P w K mg base N_normal_columns "normal_columns" (top 29) f cdv A0 outer s0 H E).env (XC P w K mg base N_normal_columns "normal_columns" (top 29) f cdv A0 outer s0 H E).xe := passes_of rfl
  exact (dss_cons (ds_if (dt_cmp (op_eqX rfl (hu64 hr)) dr_eq (dp_var (pv 2)) (dp_str [114, 111, 119, 115]) (nomark _)) (dss_one (ds_ret (dp_tup (da_cons (dp_tup (da_cons dp_int (da_cons dp_bl da_nil))) (da_cons (dp_tup (da_cons (dp_gi T.g_MOST_COLUMNS rfl) (da_cons dp_bl da_nil))) da_nil))))) dss_nil)
      (dss_one (ds_ret (dp_cal (by exact cin_order) (by exact hr) (by decide) (by exact tk) (by rfl) (da_cons (dp_tup (da_cons (dp_fld T.fl_column (dp_var (pv 0))) (da_cons (dp_fld T.fl_fixed_column (dp_var (pv 0))) da_nil))) (da_cons (dp_tup (da_cons (dp_fld T.fl_column (dp_var (pv 1))) (da_cons (dp_fld T.fl_fixed_column (dp_var (pv 1))) da_nil))) da_nil))))))
theorem b_same_sheets (T : Txt P K mg A)  (f : Addr) (cdv : Value) (A0 : Around) (outer : List Env) (s0 : Shared) (H : Hp) (E : XK) (hr : Room 1 (A0.deeper (envOfC "same_sheets" (defScope (top 21)) s0.heap.objs.size f cdv))) :
    PSs (XC P w K mg base N_same_sheets "same_sheets" (top 21) f cdv A0 outer s0 H E) (defBody (top 21)) (liftS (MM K Tb pn cs) (fun cls d _ H' => E cls d H') (t_same_sheets K A cs)) := by
  have tk : Takes (XC P w K mg base N_same_sheets "same_sheets" (top 21) f cdv A0 outer s0 H E) (fun cls d _ H => E cls d H) := takes_of rfl rfl rfl rfl
  have hp : PassesOwn (model P w) (XC P w K mg base N_same_sheets "same_sheets" (top 21) f cdv A0 outer s0 H E).A (XC P w K mg base N_same_sheets "same_sheets" (top 21) f cdv A0 outer s0 H E).env (XC P w K mg base N_same_sheets "same_sheets" (top 21) f cdv A0 outer s0 H E).xe := passes_of rfl
  exact (dss_cons (ds_if (dt_w (dw_or (dt_cmp op_isN dr_isN (dp_var (pv 0)) dp_non (nomark _)) (dw_or1 (dt_cmp op_isN dr_isN (dp_var (pv 1)) dp_non (nomark _))))) (dss_one (ds_ret (dp_and (dp_cmp op_isN dr_isN (dp_var (pv 0)) dp_non (nomark _)) (dp_one (dp_cmp op_isN dr_isN (dp_var (pv 1)) dp_non (nomark _)))))) dss_nil)
      (dss_one (ds_ret (dp_cmp (op_eqX rfl (hu64 hr)) dr_eq (dp_m0 (pe_lower (dp_var (pv 0))) drm_lower) (dp_m0 (pe_lower (dp_var (pv 1))) drm_lower) (nomark _)))))
theorem b_Area_init (T : Txt P K mg A) (cAddress_new0 : NewD P w K mg base (MM K Tb pn cs) 5 "Address" 2 ["fixed_row", "fixed_column", "sheet"] g_Address_new0 (s_Address A)) (cneed_address : CalD P w K mg base (MM K Tb pn cs) 2 "need_address" ["value"] (s_need_address A)) (cnormal_columns : CalD P w K mg base (MM K Tb pn cs) 3 "normal_columns" ["first", "last", "whole"] (s_normal_columns A)) (cnormal_rows : CalD P w K mg base (MM K Tb pn cs) 3 "normal_rows" ["first", "last", "whole"] (s_normal_rows A)) (csame_sheets : CalD P w K mg base (MM K Tb pn cs) 2 "same_sheets" ["one", "other"] (s_same_sheets A)) (f : Addr) (cdv : Value) (A0 : Around) (outer : List Env) (s0 : Shared) (H : Hp) (E : XK) (hr : Room 6 (A0.deeper (envOfC "Area.__init__" (defScope (inClass (top 30) 0)) s0.heap.objs.size f cdv))) :
    PSs (XC P w K mg base N_Area_init "Area.__init__" (inClass (top 30) 0) f cdv A0 outer s0 H E) (defBody (inClass (top 30) 0)) (liftS (MM K Tb pn cs) (fun cls d _ H' => E cls d H') (t_Area_init K A cs)) := by
  have tk : Takes (XC P w K mg base N_Area_init "Area.__init__" (inClass (top 30) 0) f cdv A0 outer s0 H E) (fun cls d _ H => E cls d H) := takes_of rfl rfl rfl rfl
  have hp : PassesOwn (model P w) (XC P w K mg base N_Area_init "Area.__init__" (inClass (top 30) 0) f cdv A0 outer s0 H E).A (XC P w K mg base N_Area_init "Area.__init__" (inClass (top 30) 0) f cdv A0 outer s0 H E).env (XC P w K mg base N_Area_init "Area.__init__" (inClass (top 30) 0) f cdv A0 outer s0 H E).xe := passes_of rfl
  exact (dss_cons (ds_expr (dp_cal (by exact cneed_address) (by exact hr) (by decide) (by exact tk) (by rfl) (da_cons (dp_var (pv 1)) da_nil)))
      (dss_cons (ds_expr (dp_cal (by exact cneed_address) (by exact hr) (by decide) (by exact tk) (by rfl) (da_cons (dp_var (pv 2)) da_nil)))
      (dss_cons (ds_if (dt_w (dw_and (dt_cmp op_notN dr_notN (dp_fld T.fl_sheet (dp_var (pv 2))) dp_non (nomark _)) (dw_and1 (dt_not (dt_val (dp_cal (by exact csame_sheets) (by exact hr) (by decide) (by exact tk) (by rfl) (da_cons (dp_fld T.fl_sheet (dp_var (pv 1))) (da_cons (dp_fld T.fl_sheet (dp_var (pv 2))) da_nil)))))))) (dss_one (ds_raise (ps_raiseErr rfl T.e_BadValue hr tk (da_cons (dp_var (pv 2)) da_nil) (by rfl) (by decide)))) dss_nil)
      (dss_cons (ds_if (dt_w (dw_and (dt_cmp op_notN dr_notN (dp_var (pv 3)) dp_non (nomark _)) (dw_and (dt_cmp (op_neX rfl (hu64 hr)) dr_ne (dp_var (pv 3)) (dp_str [99, 111, 108, 117, 109, 110, 115]) (nomark _)) (dw_and1 (dt_cmp (op_neX rfl (hu64 hr)) dr_ne (dp_var (pv 3)) (dp_str [114, 111, 119, 115]) (nomark _)))))) (dss_one (ds_raise (ps_raiseErr rfl T.e_BadValue hr tk (da_cons (dp_var (pv 3)) da_nil) (by rfl) (by decide)))) dss_nil)
      (dss_cons (ds_asg (vs := [4, 5]) (ps_asg (dp_cal (by exact cnormal_rows) (by exact hr) (by decide) (by exact tk) (by rfl) (da_cons (dp_var (pv 1)) (da_cons (dp_var (pv 2)) (da_cons (dp_var (pv 3)) da_nil)))) (dg_tup rfl rfl (dgs_cons (dg_of (pg_name (i := 4) sc_Area_init.nd rfl (Or.inl rfl)) (by decide)) (dgs_cons (dg_of (pg_name (i := 5) sc_Area_init.nd rfl (Or.inl rfl)) (by decide)) dgs_nil)))))
      (dss_cons (ds_asg (vs := [6, 7]) (ps_asg (dp_cal (by exact cnormal_columns) (by exact hr) (by decide) (by exact tk) (by rfl) (da_cons (dp_var (pv 1)) (da_cons (dp_var (pv 2)) (da_cons (dp_var (pv 3)) da_nil)))) (dg_tup rfl rfl (dgs_cons (dg_of (pg_name (i := 6) sc_Area_init.nd rfl (Or.inl rfl)) (by decide)) (dgs_cons (dg_of (pg_name (i := 7) sc_Area_init.nd rfl (Or.inl rfl)) (by decide)) dgs_nil)))))
      (dss_cons (ds_set (ps_set (i := 8) sc_Area_init.nd rfl (Or.inl rfl) (dp_fld T.fl_sheet (dp_var (pv 1)))))
      (dss_cons (ds_asg (vs := []) (ps_asg (dp_newK (by exact cAddress_new0) (by exact hr) (by decide) (by exact tk) (by rfl) (da_cons (dp_ix rfl (dp_var (pv 4)) dp_int) (da_cons (dp_ix rfl (dp_var (pv 6)) dp_int) da_nil)) (dk_cons (dp_ix rfl (dp_var (pv 4)) dp_int) (dk_cons (dp_ix rfl (dp_var (pv 6)) dp_int) (dk_cons (dp_var (pv 8)) dk_nil)))) (dg_fld (W := W0) T.fl_first (dp_var (pv 0)))))
      (dss_cons (ds_asg (vs := []) (ps_asg (dp_newK (by exact cAddress_new0) (by exact hr) (by decide) (by exact tk) (by rfl) (da_cons (dp_ix rfl (dp_var (pv 5)) dp_int) (da_cons (dp_ix rfl (dp_var (pv 7)) dp_int) da_nil)) (dk_cons (dp_ix rfl (dp_var (pv 5)) dp_int) (dk_cons (dp_ix rfl (dp_var (pv 7)) dp_int) (dk_cons (dp_var (pv 8)) dk_nil)))) (dg_fld (W := W0) T.fl_last (dp_var (pv 0)))))
      (dss_cons (ds_asg (vs := []) (ps_asg (dp_tup (da_cons (dp_var (pv 3)) (da_cons (dp_var (pv 8)) da_nil))) (dg_tup rfl rfl (dgs_cons (dg_fld (W := W0) T.fl_whole (dp_var (pv 0))) (dgs_cons (dg_fld (W := W0) T.fl_sheet (dp_var (pv 0))) dgs_nil)))))
      (dss_cons (ds_asg (vs := []) (ps_asg (dp_add rfl (dp_sub (dp_ix rfl (dp_var (pv 5)) dp_int) (dp_ix rfl (dp_var (pv 4)) dp_int)) dp_int) (dg_fld (W := W0) T.fl_height (dp_var (pv 0)))))
      (dss_one (ds_asg (vs := []) (ps_asg (dp_add rfl (dp_sub (dp_ix rfl (dp_var (pv 7)) dp_int) (dp_ix rfl (dp_var (pv 6)) dp_int)) dp_int) (dg_fld (W := W0) T.fl_width (dp_var (pv 0)))))))))))))))))
theorem b__law_in_order (T : Txt P K mg A)  (TB : LamX.TabB base mg A.k_law_in_order A.p_law_in_order) (TM : (A.p_law_in_order, (("_law_in_order" : Str) ++ ".<locals>." ++ "<lambda>")) ∈ Tb) (TU : ∀ p ∈ Tb, p.1 = A.p_law_in_order → p.2 = (("_law_in_order" : Str) ++ ".<locals>." ++ "<lambda>")) (f : Addr) (A0 : Around) (outer : List Env) (s0 : Shared) (H : Hp) (E : XK) (hr : Room 3 (A0.deeper (envOfC "_law_in_order" (defScope (top 44)) s0.heap.objs.size f (.ref A.k_law_in_order)))) :
    PSs (XC P w K mg base N__law_in_order "_law_in_order" (top 44) f (.ref A.k_law_in_order) A0 outer s0 H E) (defBody (top 44)) (liftS (MM K Tb pn cs) (fun cls d _ H' => E cls d H') (t__law_in_order K A cs)) := by
  have tk : Takes (XC P w K mg base N__law_in_order "_law_in_order" (top 44) f (.ref A.k_law_in_order) A0 outer s0 H E) (fun cls d _ H => E cls d H) := takes_of rfl rfl rfl rfl
  have hp : PassesOwn (model P w) (XC P w K mg base N__law_in_order "_law_in_order" (top 44) f (.ref A.k_law_in_order) A0 outer s0 H E).A (XC P w K mg base N__law_in_order "_law_in_order" (top 44) f (.ref A.k_law_in_order) A0 outer s0 H E).env (XC P w K mg base N__law_in_order "_law_in_order" (top 44) f (.ref A.k_law_in_order) A0 outer s0 H E).xe := passes_of rfl
  exact (dss_one (ds_ret (dp_sortK (k := 0) (y := "_law_pair") rfl (dp_var (pv 0)) hr TB (by rfl) TM TU (by rfl) (by exact ⟨rfl, rfl, rfl, by decide +kernel, rfl, by decide +kernel, by decide +kernel⟩) (by exact fun _ _ _ _ _ _ => rfl) (fun A2 outer2 s2 H2 f2 c2 => by exact (dp_tup (da_cons (dp_ix rfl (dp_var (pv 0)) dp_int) (da_cons (dp_not (dp_ix rfl (dp_var (pv 0)) dp_int)) da_nil)))) rfl (by rfl) (by exact T.n_sorted))))
theorem b__law_normal (T : Txt P K mg A) (c_law_in_order : CalD P w K mg base (MM K Tb pn cs) 4 "_law_in_order" ["_law_pairs"] (s__law_in_order A)) (f : Addr) (cdv : Value) (A0 : Around) (outer : List Env) (s0 : Shared) (H : Hp) (E : XK) (hr : Room 4 (A0.deeper (envOfC "_law_normal" (defScope (top 46)) s0.heap.objs.size f cdv))) :
    PSs (XC P w K mg base N__law_normal "_law_normal" (top 46) f cdv A0 outer s0 H E) (defBody (top 46)) (liftS (MM K Tb pn cs) (fun cls d _ H' => E cls d H') (t__law_normal K A cs)) := by
  have tk : Takes (XC P w K mg base N__law_normal "_law_normal" (top 46) f cdv A0 outer s0 H E) (fun cls d _ H => E cls d H) := takes_of rfl rfl rfl rfl
  have hp : PassesOwn (model P w) (XC P w K mg base N__law_normal "_law_normal" (top 46) f cdv A0 outer s0 H E).A (XC P w K mg base N__law_normal "_law_normal" (top 46) f cdv A0 outer s0 H E).env (XC P w K mg base N__law_normal "_law_normal" (top 46) f cdv A0 outer s0 H E).xe := passes_of rfl
  exact (dss_cons (ds_asg (vs := [1, 2, 3, 4]) (ps_asg (dp_var (pv 0)) (dg_tup rfl rfl (dgs_cons (dg_of (pg_name (i := 1) sc__law_normal.nd rfl (Or.inl rfl)) (by decide)) (dgs_cons (dg_of (pg_name (i := 2) sc__law_normal.nd rfl (Or.inl rfl)) (by decide)) (dgs_cons (dg_of (pg_name (i := 3) sc__law_normal.nd rfl (Or.inl rfl)) (by decide)) (dgs_cons (dg_of (pg_name (i := 4) sc__law_normal.nd rfl (Or.inl rfl)) (by decide)) dgs_nil)))))))
      (dss_cons (ds_par (ps_par (i := 1) (j := 2) rfl sc__law_normal.nd rfl rfl (by decide) rfl rfl (da_cons (dp_cal (by exact c_law_in_order) (by exact hr) (by decide) (by exact tk) (by rfl) (da_cons (dp_var (pv 1)) da_nil)) (da_cons (dp_cal (by exact c_law_in_order) (by exact hr) (by decide) (by exact tk) (by rfl) (da_cons (dp_var (pv 2)) da_nil)) da_nil)) rfl rfl))
      (dss_cons (ds_if (dt_cmp (op_eqX rfl (hu64 hr)) dr_eq (dp_var (pv 3)) (dp_str [99, 111, 108, 117, 109, 110, 115]) (nomark _)) (dss_one (ds_set (ps_set (i := 1) sc__law_normal.nd rfl (Or.inl rfl) (dp_lst (da_cons (dp_tup (da_cons dp_int (da_cons dp_bl da_nil))) (da_cons (dp_tup (da_cons dp_int (da_cons dp_bl da_nil))) da_nil)))))) dss_nil)
      (dss_cons (ds_if (dt_cmp (op_eqX rfl (hu64 hr)) dr_eq (dp_var (pv 3)) (dp_str [114, 111, 119, 115]) (nomark _)) (dss_one (ds_set (ps_set (i := 2) sc__law_normal.nd rfl (Or.inl rfl) (dp_lst (da_cons (dp_tup (da_cons dp_int (da_cons dp_bl da_nil))) (da_cons (dp_tup (da_cons dp_int (da_cons dp_bl da_nil))) da_nil)))))) dss_nil)
      (dss_one (ds_ret (dp_tup (da_cons (dp_var (pv 1)) (da_cons (dp_var (pv 2)) (da_cons (dp_var (pv 3)) (da_cons (dp_var (pv 4)) da_nil)))))))))))
theorem b__law_is (T : Txt P K mg A)  (f : Addr) (cdv : Value) (A0 : Around) (outer : List Env) (s0 : Shared) (H : Hp) (E : XK) (hr : Room 1 (A0.deeper (envOfC "_law_is" (defScope (top 42)) s0.heap.objs.size f cdv))) :
    PSs (XC P w K mg base N__law_is "_law_is" (top 42) f cdv A0 outer s0 H E) (defBody (top 42)) (liftS (MM K Tb pn cs) (fun cls d _ H' => E cls d H') (t__law_is K A cs)) := by
  have tk : Takes (XC P w K mg base N__law_is "_law_is" (top 42) f cdv A0 outer s0 H E) (fun cls d _ H => E cls d H) := takes_of rfl rfl rfl rfl
  have hp : PassesOwn (model P w) (XC P w K mg base N__law_is "_law_is" (top 42) f cdv A0 outer s0 H E).A (XC P w K mg base N__law_is "_law_is" (top 42) f cdv A0 outer s0 H E).env (XC P w K mg base N__law_is "_law_is" (top 42) f cdv A0 outer s0 H E).xe := passes_of rfl
  exact (dss_cons (ds_if (dt_w (dw_or (dt_not (dt_val (dp_bfn (call_isi) (drc_isi rfl) (by rfl) T.n_isinstance PyProof.Rows.boot_isinstance (da_cons (dp_var (pv 0)) (da_cons (dp_cls (by rfl) (by exact T.c_Address)) da_nil))))) (dw_or (dt_val (dp_bfn (call_isi) (drc_isi rfl) (by rfl) T.n_isinstance PyProof.Rows.boot_isinstance (da_cons (dp_fld T.fl_row (dp_var (pv 0))) (da_cons (dp_ty (by rfl) (by exact T.n_bool) PyProof.Rows.boot_bool) da_nil)))) (dw_or1 (dt_val (dp_bfn (call_isi) (drc_isi rfl) (by rfl) T.n_isinstance PyProof.Rows.boot_isinstance (da_cons (dp_fld T.fl_column (dp_var (pv 0))) (da_cons (dp_ty (by rfl) (by exact T.n_bool) PyProof.Rows.boot_bool) da_nil)))))))) (dss_one (ds_ret dp_bl)) dss_nil)
      (dss_cons (ds_if (dt_w (dw_or (dt_not (dt_val (dp_bfn (call_isi) (drc_isi rfl) (by rfl) T.n_isinstance PyProof.Rows.boot_isinstance (da_cons (dp_fld T.fl_fixed_row (dp_var (pv 0))) (da_cons (dp_ty (by rfl) (by exact T.n_bool) PyProof.Rows.boot_bool) da_nil))))) (dw_or1 (dt_not (dt_val (dp_bfn (call_isi) (drc_isi rfl) (by rfl) T.n_isinstance PyProof.Rows.boot_isinstance (da_cons (dp_fld T.fl_fixed_column (dp_var (pv 0))) (da_cons (dp_ty (by rfl) (by exact T.n_bool) PyProof.Rows.boot_bool) da_nil)))))))) (dss_one (ds_ret dp_bl)) dss_nil)
      (dss_cons (ds_set (ps_set (i := 2) sc__law_is.nd rfl (Or.inl rfl) (dp_tup (da_cons (dp_fld T.fl_row (dp_var (pv 0))) (da_cons (dp_fld T.fl_column (dp_var (pv 0))) (da_cons (dp_fld T.fl_fixed_row (dp_var (pv 0))) (da_cons (dp_fld T.fl_fixed_column (dp_var (pv 0))) (da_cons (dp_fld T.fl_sheet (dp_var (pv 0))) da_nil))))))))
      (dss_one (ds_ret (dp_cmp (op_eqX rfl (hu64 hr)) dr_eq (dp_var (pv 2)) (dp_var (pv 1)) (nomark _)))))))
theorem b__law_corner (T : Txt P K mg A)  (f : Addr) (cdv : Value) (A0 : Around) (outer : List Env) (s0 : Shared) (H : Hp) (E : XK) (hr : Room 1 (A0.deeper (envOfC "_law_corner" (defScope (top 47)) s0.heap.objs.size f cdv))) :
    PSs (XC P w K mg base N__law_corner "_law_corner" (top 47) f cdv A0 outer s0 H E) (defBody (top 47)) (liftS (MM K Tb pn cs) (fun cls d _ H' => E cls d H') (t__law_corner K A cs)) := by
  have tk : Takes (XC P w K mg base N__law_corner "_law_corner" (top 47) f cdv A0 outer s0 H E) (fun cls d _ H => E cls d H) := takes_of rfl rfl rfl rfl
  have hp : PassesOwn (model P w) (XC P w K mg base N__law_corner "_law_corner" (top 47) f cdv A0 outer s0 H E).A (XC P w K mg base N__law_corner "_law_corner" (top 47) f cdv A0 outer s0 H E).env (XC P w K mg base N__law_corner "_law_corner" (top 47) f cdv A0 outer s0 H E).xe := passes_of rfl
  exact (dss_cons (ds_asg (vs := [2, 3, 4, 5]) (ps_asg (dp_var (pv 0)) (dg_tup rfl rfl (dgs_cons (dg_of (pg_name (i := 2) sc__law_corner.nd rfl (Or.inl rfl)) (by decide)) (dgs_cons (dg_of (pg_name (i := 3) sc__law_corner.nd rfl (Or.inl rfl)) (by decide)) (dgs_cons (dg_of (pg_name (i := 4) sc__law_corner.nd rfl (Or.inl rfl)) (by decide)) (dgs_cons (dg_of (pg_name (i := 5) sc__law_corner.nd rfl (Or.inl rfl)) (by decide)) dgs_nil)))))))
      (dss_one (ds_ret (dp_tup (da_cons (dp_ix rfl (dp_ix rfl (dp_var (pv 2)) (dp_var (pv 1))) dp_int) (da_cons (dp_ix rfl (dp_ix rfl (dp_var (pv 3)) (dp_var (pv 1))) dp_int) (da_cons (dp_ix rfl (dp_ix rfl (dp_var (pv 2)) (dp_var (pv 1))) dp_int) (da_cons (dp_ix rfl (dp_ix rfl (dp_var (pv 3)) (dp_var (pv 1))) dp_int) (da_cons (dp_var (pv 5)) da_nil)))))))))
theorem b__law_is_area (T : Txt P K mg A) (c_law_corner : CalD P w K mg base (MM K Tb pn cs) 2 "_law_corner" ["_law_area_here", "_law_at"] (s__law_corner A)) (c_law_is : CalD P w K mg base (MM K Tb pn cs) 2 "_law_is" ["_law_address", "_law_place"] (s__law_is A)) (f : Addr) (cdv : Value) (A0 : Around) (outer : List Env) (s0 : Shared) (H : Hp) (E : XK) (hr : Room 2 (A0.deeper (envOfC "_law_is_area" (defScope (top 49)) s0.heap.objs.size f cdv))) :
    PSs (XC P w K mg base N__law_is_area "_law_is_area" (top 49) f cdv A0 outer s0 H E) (defBody (top 49)) (liftS (MM K Tb pn cs) (fun cls d _ H' => E cls d H') (t__law_is_area K A cs)) := by
  have tk : Takes (XC P w K mg base N__law_is_area "_law_is_area" (top 49) f cdv A0 outer s0 H E) (fun cls d _ H => E cls d H) := takes_of rfl rfl rfl rfl
  have hp : PassesOwn (model P w) (XC P w K mg base N__law_is_area "_law_is_area" (top 49) f cdv A0 outer s0 H E).A (XC P w K mg base N__law_is_area "_law_is_area" (top 49) f cdv A0 outer s0 H E).env (XC P w K mg base N__law_is_area "_law_is_area" (top 49) f cdv A0 outer s0 H E).xe := passes_of rfl
  exact (dss_cons (ds_if (dt_w (dw_or (dt_not (dt_val (dp_bfn (call_isi) (drc_isi rfl) (by rfl) T.n_isinstance PyProof.Rows.boot_isinstance (da_cons (dp_var (pv 0)) (da_cons (dp_cls (by rfl) (by exact T.c_Area)) da_nil))))) (dw_or (dt_cmp (op_neX rfl (hu64 hr)) dr_ne (dp_fld T.fl_whole (dp_var (pv 0))) (dp_ix rfl (dp_var (pv 1)) dp_int) (nomark _)) (dw_or1 (dt_cmp (op_neX rfl (hu64 hr)) dr_ne (dp_fld T.fl_sheet (dp_var (pv 0))) (dp_ix rfl (dp_var (pv 1)) dp_int) (nomark _)))))) (dss_one (ds_ret dp_bl)) dss_nil)
      (dss_cons (ds_if (dt_w (dw_or (dt_not (dt_val (dp_cal (by exact c_law_is) (by exact hr) (by decide) (by exact tk) (by rfl) (da_cons (dp_fld T.fl_first (dp_var (pv 0))) (da_cons (dp_cal (by exact c_law_corner) (by exact hr) (by decide) (by exact tk) (by rfl) (da_cons (dp_var (pv 1)) (da_cons dp_int da_nil))) da_nil))))) (dw_or1 (dt_not (dt_val (dp_cal (by exact c_law_is) (by exact hr) (by decide) (by exact tk) (by rfl) (da_cons (dp_fld T.fl_last (dp_var (pv 0))) (da_cons (dp_cal (by exact c_law_corner) (by exact hr) (by decide) (by exact tk) (by rfl) (da_cons (dp_var (pv 1)) (da_cons dp_int da_nil))) da_nil)))))))) (dss_one (ds_ret dp_bl)) dss_nil)
      (dss_cons (ds_par (ps_par (i := 2) (j := 3) rfl sc__law_is_area.nd rfl rfl (by decide) rfl rfl (da_cons (dp_add rfl (dp_sub (dp_ix rfl (dp_ix rfl (dp_ix rfl (dp_var (pv 1)) dp_int) dp_int) dp_int) (dp_ix rfl (dp_ix rfl (dp_ix rfl (dp_var (pv 1)) dp_int) dp_int) dp_int)) dp_int) (da_cons (dp_add rfl (dp_sub (dp_ix rfl (dp_ix rfl (dp_ix rfl (dp_var (pv 1)) dp_int) dp_int) dp_int) (dp_ix rfl (dp_ix rfl (dp_ix rfl (dp_var (pv 1)) dp_int) dp_int) dp_int)) dp_int) da_nil)) rfl rfl))
      (dss_one (ds_ret (dp_cmp (op_eqX rfl (hu64 hr)) dr_eq (dp_tup (da_cons (dp_fld T.fl_height (dp_var (pv 0))) (da_cons (dp_fld T.fl_width (dp_var (pv 0))) da_nil))) (dp_tup (da_cons (dp_var (pv 2)) (da_cons (dp_var (pv 3)) da_nil))) (nomark _)))))))
theorem b__law_made (T : Txt P K mg A) (cAddress_new0 : NewD P w K mg base (MM K Tb pn cs) 5 "Address" 2 ["fixed_row", "fixed_column", "sheet"] g_Address_new0 (s_Address A)) (f : Addr) (cdv : Value) (A0 : Around) (outer : List Env) (s0 : Shared) (H : Hp) (E : XK) (hr : Room 6 (A0.deeper (envOfC "_law_made" (defScope (top 41)) s0.heap.objs.size f cdv))) :
    PSs (XC P w K mg base N__law_made "_law_made" (top 41) f cdv A0 outer s0 H E) (defBody (top 41)) (liftS (MM K Tb pn cs) (fun cls d _ H' => E cls d H') (t__law_made K A cs)) := by
  have tk : Takes (XC P w K mg base N__law_made "_law_made" (top 41) f cdv A0 outer s0 H E) (fun cls d _ H => E cls d H) := takes_of rfl rfl rfl rfl
  have hp : PassesOwn (model P w) (XC P w K mg base N__law_made "_law_made" (top 41) f cdv A0 outer s0 H E).A (XC P w K mg base N__law_made "_law_made" (top 41) f cdv A0 outer s0 H E).env (XC P w K mg base N__law_made "_law_made" (top 41) f cdv A0 outer s0 H E).xe := passes_of rfl
  exact (dss_one (ds_ret (dp_newK (by exact cAddress_new0) (by exact hr) (by decide) (by exact tk) (by rfl) (da_cons (dp_ix rfl (dp_var (pv 0)) dp_int) (da_cons (dp_ix rfl (dp_var (pv 0)) dp_int) da_nil)) (dk_cons (dp_ix rfl (dp_var (pv 0)) dp_int) (dk_cons (dp_ix rfl (dp_var (pv 0)) dp_int) (dk_cons (dp_ix rfl (dp_var (pv 0)) dp_int) dk_nil))))))
theorem told_ok {X : Cx} {W : WX} (T : Txt X.prog X.K X.mg A) (tk : Takes X W) {q : Str} (g : Addr) : LamX.GivesS X N__law_told "_law_told" (defScope (top 40)) g (.ref A.k_law_told) (defBody (top 40)) "_law_call" q (TTd (MM X.K Tb pn cs) (s_law_told A)) :=
  gives_D (M := MM X.K Tb pn cs) (fun f c σ δ fb => t__law_told X.K A f c q σ δ fb) (by decide) (fun s H f c σ δ fb act => (dss_cons (ds_set (ps_set (i := 1) sc_law_told.nd rfl (Or.inl rfl) (dp_tup (da_cons (dp_str [110, 111, 116, 104, 105, 110, 103]) da_nil))))
      (dss_cons (ds_try rfl rfl rfl sc_law_told.nd LamX.takes0 (fun W2 pn xe tk2 hp2 => by exact (dss_one (ds_set (ps_set (i := 1) sc_law_told.nd rfl (Or.inl rfl) (dp_tup (da_cons (dp_str [116, 111, 108, 100]) (da_cons (act W2 pn xe _ _ tk2) da_nil))))))) (HdsAs.cons (i := 2) rfl rfl ⟨rfl, by decide, .inl T.c_BadValue⟩ (fun a oe cls d pn hz hf => by exact (dss_one (ds_set (ps_set (i := 1) sc_law_told.nd rfl (Or.inl rfl) (dp_tup (da_cons (dp_str [66, 97, 100, 86, 97, 108, 117, 101]) (da_cons (dp_xf (pe_xf (by exact T.xf_BadValue) (by exact T.no_BadValue_value) hz hf (dp_var (pv 2)))) da_nil))))))) (HdsAs.cons (i := 2) rfl rfl ⟨rfl, by decide, .inl T.c_NotAName⟩ (fun a oe cls d pn hz hf => by exact (dss_one (ds_set (ps_set (i := 1) sc_law_told.nd rfl (Or.inl rfl) (dp_tup (da_cons (dp_str [78, 111, 116, 65, 78, 97, 109, 101]) (da_cons (dp_xf (pe_xf (by exact T.xf_NotAName) (by exact T.no_NotAName_name) hz hf (dp_var (pv 2)))) da_nil))))))) (HdsAs.cons (i := 2) rfl rfl ⟨rfl, by decide, .inl T.c_OffGrid⟩ (fun a oe cls d pn hz hf => by exact (dss_one (ds_set (ps_set (i := 1) sc_law_told.nd rfl (Or.inl rfl) (dp_tup (da_cons (dp_str [79, 102, 102, 71, 114, 105, 100]) (da_cons (dp_xf (pe_xf (by exact T.xf_OffGrid) (by exact T.no_OffGrid_row) hz hf (dp_var (pv 2)))) (da_cons (dp_xf (pe_xf (by exact T.xf_OffGrid) (by exact T.no_OffGrid_column) hz hf (dp_var (pv 2)))) da_nil)))))))) (HdsAs.cons (i := 2) rfl rfl ⟨rfl, by decide, .inl T.c_TooMany⟩ (fun a oe cls d pn hz hf => by exact (dss_one (ds_set (ps_set (i := 1) sc_law_told.nd rfl (Or.inl rfl) (dp_tup (da_cons (dp_str [84, 111, 111, 77, 97, 110, 121]) (da_cons (dp_xf (pe_xf (by exact T.xf_TooMany) (by exact T.no_TooMany_most) hz hf (dp_var (pv 2)))) da_nil))))))) HdsAs.nil)))))
      (dss_one (ds_ret (dp_var (pv 1))))))) (fun f c σ δ fb n qd h => p__law_told T h)
theorem b__law_area_made (T : Txt P K mg A) (cArea_new1 : NewD P w K mg base (MM K Tb pn cs) 7 "Area" 2 ["whole"] g_Area_new1 (s_Area A)) (c_law_corner : CalD P w K mg base (MM K Tb pn cs) 2 "_law_corner" ["_law_area_here", "_law_at"] (s__law_corner A)) (c_law_made : CalD P w K mg base (MM K Tb pn cs) 7 "_law_made" ["_law_place"] (s__law_made A)) (f : Addr) (cdv : Value) (A0 : Around) (outer : List Env) (s0 : Shared) (H : Hp) (E : XK) (hr : Room 8 (A0.deeper (envOfC "_law_area_made" (defScope (top 48)) s0.heap.objs.size f cdv))) :
    PSs (XC P w K mg base N__law_area_made "_law_area_made" (top 48) f cdv A0 outer s0 H E) (defBody (top 48)) (liftS (MM K Tb pn cs) (fun cls d _ H' => E cls d H') (t__law_area_made K A cs)) := by
  have tk : Takes (XC P w K mg base N__law_area_made "_law_area_made" (top 48) f cdv A0 outer s0 H E) (fun cls d _ H => E cls d H) := takes_of rfl rfl rfl rfl
  have hp : PassesOwn (model P w) (XC P w K mg base N__law_area_made "_law_area_made" (top 48) f cdv A0 outer s0 H E).A (XC P w K mg base N__law_area_made "_law_area_made" (top 48) f cdv A0 outer s0 H E).env (XC P w K mg base N__law_area_made "_law_area_made" (top 48) f cdv A0 outer s0 H E).xe := passes_of rfl
  exact (dss_one (ds_ret (dp_newK (by exact cArea_new1) (by exact hr) (by decide) (by exact tk) (by rfl) (da_cons (dp_cal (by exact c_law_made) (by exact hr) (by decide) (by exact tk) (by rfl) (da_cons (dp_cal (by exact c_law_corner) (by exact hr) (by decide) (by exact tk) (by rfl) (da_cons (dp_var (pv 0)) (da_cons dp_int da_nil))) da_nil)) (da_cons (dp_cal (by exact c_law_made) (by exact hr) (by decide) (by exact tk) (by rfl) (da_cons (dp_cal (by exact c_law_corner) (by exact hr) (by decide) (by exact tk) (by rfl) (da_cons (dp_var (pv 0)) (da_cons dp_int da_nil))) da_nil)) da_nil)) (dk_cons (dp_ix rfl (dp_var (pv 0)) dp_int) dk_nil))))
theorem b_Address_eq (T : Txt P K mg A) (csame_sheets : CalD P w K mg base (MM K Tb pn cs) 2 "same_sheets" ["one", "other"] (s_same_sheets A)) (f : Addr) (cdv : Value) (A0 : Around) (outer : List Env) (s0 : Shared) (H : Hp) (E : XK) (hr : Room 2 (A0.deeper (envOfC "Address.__eq__" (defScope (inClass (top 22) 1)) s0.heap.objs.size f cdv))) :
    PSs (XC P w K mg base N_Address_eq "Address.__eq__" (inClass (top 22) 1) f cdv A0 outer s0 H E) (defBody (inClass (top 22) 1)) (liftS (MM K Tb pn cs) (fun cls d _ H' => E cls d H') (t_Address_eq K A cs)) := by
  have tk : Takes (XC P w K mg base N_Address_eq "Address.__eq__" (inClass (top 22) 1) f cdv A0 outer s0 H E) (fun cls d _ H => E cls d H) := takes_of rfl rfl rfl rfl
  have hp : PassesOwn (model P w) (XC P w K mg base N_Address_eq "Address.__eq__" (inClass (top 22) 1) f cdv A0 outer s0 H E).A (XC P w K mg base N_Address_eq "Address.__eq__" (inClass (top 22) 1) f cdv A0 outer s0 H E).env (XC P w K mg base N_Address_eq "Address.__eq__" (inClass (top 22) 1) f cdv A0 outer s0 H E).xe := passes_of rfl
  exact (dss_cons (ds_if (dt_w (dw_or (dt_not (dt_val (dp_bfn (call_isi) (drc_isi rfl) (by rfl) T.n_isinstance PyProof.Rows.boot_isinstance (da_cons (dp_var (pv 1)) (da_cons (dp_cls (by rfl) (by exact T.c_Address)) da_nil))))) (dw_or (dt_cmp (op_neX rfl (hu64 hr)) dr_ne (dp_fld T.fl_row (dp_var (pv 0))) (dp_fld T.fl_row (dp_var (pv 1))) (nomark _)) (dw_or1 (dt_cmp (op_neX rfl (hu64 hr)) dr_ne (dp_fld T.fl_column (dp_var (pv 0))) (dp_fld T.fl_column (dp_var (pv 1))) (nomark _)))))) (dss_one (ds_ret dp_bl)) dss_nil)
      (dss_cons (ds_if (dt_w (dw_or (dt_cmp (op_neX rfl (hu64 hr)) dr_ne (dp_fld T.fl_fixed_row (dp_var (pv 0))) (dp_fld T.fl_fixed_row (dp_var (pv 1))) (nomark _)) (dw_or1 (dt_cmp (op_neX rfl (hu64 hr)) dr_ne (dp_fld T.fl_fixed_column (dp_var (pv 0))) (dp_fld T.fl_fixed_column (dp_var (pv 1))) (nomark _))))) (dss_one (ds_ret dp_bl)) dss_nil)
      (dss_one (ds_ret (dp_cal (by exact csame_sheets) (by exact hr) (by decide) (by exact tk) (by rfl) (da_cons (dp_fld T.fl_sheet (dp_var (pv 0))) (da_cons (dp_fld T.fl_sheet (dp_var (pv 1))) da_nil)))))))
theorem b_Area_eq (T : Txt P K mg A) (cAddress_eq : EqD P w K mg base (MM K Tb pn cs) 3 A.Address (s_Address_eq A)) (f : Addr) (cdv : Value) (A0 : Around) (outer : List Env) (s0 : Shared) (H : Hp) (E : XK) (hr : Room 4 (A0.deeper (envOfC "Area.__eq__" (defScope (inClass (top 30) 1)) s0.heap.objs.size f cdv))) :
    PSs (XC P w K mg base N_Area_eq "Area.__eq__" (inClass (top 30) 1) f cdv A0 outer s0 H E) (defBody (inClass (top 30) 1)) (liftS (MM K Tb pn cs) (fun cls d _ H' => E cls d H') (t_Area_eq K A cs)) := by
  have tk : Takes (XC P w K mg base N_Area_eq "Area.__eq__" (inClass (top 30) 1) f cdv A0 outer s0 H E) (fun cls d _ H => E cls d H) := takes_of rfl rfl rfl rfl
  have hp : PassesOwn (model P w) (XC P w K mg base N_Area_eq "Area.__eq__" (inClass (top 30) 1) f cdv A0 outer s0 H E).A (XC P w K mg base N_Area_eq "Area.__eq__" (inClass (top 30) 1) f cdv A0 outer s0 H E).env (XC P w K mg base N_Area_eq "Area.__eq__" (inClass (top 30) 1) f cdv A0 outer s0 H E).xe := passes_of rfl
  exact (dss_cons (ds_if (dt_w (dw_or (dt_not (dt_val (dp_bfn (call_isi) (drc_isi rfl) (by rfl) T.n_isinstance PyProof.Rows.boot_isinstance (da_cons (dp_var (pv 1)) (da_cons (dp_cls (by rfl) (by exact T.c_Area)) da_nil))))) (dw_or1 (dt_cmp (op_neO (by exact cAddress_eq) rfl (by exact hr) (by decide)) dr_neO (dp_fld T.fl_whole (dp_var (pv 0))) (dp_fld T.fl_whole (dp_var (pv 1))) (nomark _))))) (dss_one (ds_ret dp_bl)) dss_nil)
      (dss_one (ds_ret (dp_and (dp_cmp (op_eqO (by exact cAddress_eq) rfl (by exact hr) (by decide)) dr_eqO (dp_fld T.fl_first (dp_var (pv 0))) (dp_fld T.fl_first (dp_var (pv 1))) (nomark _)) (dp_one (dp_cmp (op_eqO (by exact cAddress_eq) rfl (by exact hr) (by decide)) dr_eqO (dp_fld T.fl_last (dp_var (pv 0))) (dp_fld T.fl_last (dp_var (pv 1))) (nomark _)))))))
theorem b__law_made_right (T : Txt P K mg A) (cAddress_eq : EqD P w K mg base (MM K Tb pn cs) 3 A.Address (s_Address_eq A)) (cArea_eq : EqD P w K mg base (MM K Tb pn cs) 5 A.Area (s_Area_eq A)) (cArea_new1 : NewD P w K mg base (MM K Tb pn cs) 7 "Area" 2 ["whole"] g_Area_new1 (s_Area A)) (c_law_area_made : CalD P w K mg base (MM K Tb pn cs) 9 "_law_area_made" ["_law_area_here"] (s__law_area_made A)) (c_law_is_area : CalD P w K mg base (MM K Tb pn cs) 3 "_law_is_area" ["_law_found", "_law_area_here"] (s__law_is_area A)) (c_law_made : CalD P w K mg base (MM K Tb pn cs) 7 "_law_made" ["_law_place"] (s__law_made A)) (c_law_normal : CalD P w K mg base (MM K Tb pn cs) 5 "_law_normal" ["_law_area_here"] (s__law_normal A)) (c_law_pick : CalD P w K mg base (MM K Tb pn cs) 3 "_law_pick" ["_law_pen_here", "_law_menu"] (s__law_pick A)) (TB : LamX.TabB base mg A.k_law_made_right A.p_law_made_right) (TM : (A.p_law_made_right, (("_law_made_right" : Str) ++ ".<locals>." ++ "<lambda>")) ∈ Tb) (TU : ∀ p ∈ Tb, p.1 = A.p_law_made_right → p.2 = (("_law_made_right" : Str) ++ ".<locals>." ++ "<lambda>")) (f : Addr) (A0 : Around) (outer : List Env) (s0 : Shared) (H : Hp) (E : XK) (hr : Room 10 (A0.deeper (envOfC "_law_made_right" (defScope (top 55)) s0.heap.objs.size f (.ref A.k_law_made_right)))) :
    PSs (XC P w K mg base N__law_made_right "_law_made_right" (top 55) f (.ref A.k_law_made_right) A0 outer s0 H E) (defBody (top 55)) (liftS (MM K Tb pn cs) (fun cls d _ H' => E cls d H') (t__law_made_right K A cs)) := by
  have tk : Takes (XC P w K mg base N__law_made_right "_law_made_right" (top 55) f (.ref A.k_law_made_right) A0 outer s0 H E) (fun cls d _ H => E cls d H) := takes_of rfl rfl rfl rfl
  have hp : PassesOwn (model P w) (XC P w K mg base N__law_made_right "_law_made_right" (top 55) f (.ref A.k_law_made_right) A0 outer s0 H E).A (XC P w K mg base N__law_made_right "_law_made_right" (top 55) f (.ref A.k_law_made_right) A0 outer s0 H E).env (XC P w K mg base N__law_made_right "_law_made_right" (top 55) f (.ref A.k_law_made_right) A0 outer s0 H E).xe := passes_of rfl
  exact (dss_cons (ds_asg (vs := [2, 3, 4, 5]) (ps_asg (dp_var (pv 1)) (dg_tup rfl rfl (dgs_cons (dg_of (pg_name (i := 2) sc__law_made_right.nd rfl (Or.inl rfl)) (by decide)) (dgs_cons (dg_of (pg_name (i := 3) sc__law_made_right.nd rfl (Or.inl rfl)) (by decide)) (dgs_cons (dg_of (pg_name (i := 4) sc__law_made_right.nd rfl (Or.inl rfl)) (by decide)) (dgs_cons (dg_of (pg_name (i := 5) sc__law_made_right.nd rfl (Or.inl rfl)) (by decide)) dgs_nil)))))))
      (dss_cons (ds_set (ps_set (i := 6) sc__law_made_right.nd rfl (Or.inl rfl) (dp_cal (by exact c_law_normal) (by exact hr) (by decide) (by exact tk) (by rfl) (da_cons (dp_var (pv 1)) da_nil))))
      (dss_cons (ds_if (dt_not (dt_val (dp_cal (by exact c_law_is_area) (by exact hr) (by decide) (by exact tk) (by rfl) (da_cons (dp_cal (by exact c_law_area_made) (by exact hr) (by decide) (by exact tk) (by rfl) (da_cons (dp_var (pv 1)) da_nil)) (da_cons (dp_var (pv 6)) da_nil))))) (dss_one (ds_ret dp_bl)) dss_nil)
      (dss_cons (ds_set (ps_set (i := 7) sc__law_made_right.nd rfl (Or.inr rfl) (dp_tup (da_cons (dp_ix rfl (dp_ix rfl (dp_var (pv 2)) dp_int) dp_int) (da_cons (dp_ix rfl (dp_ix rfl (dp_var (pv 3)) dp_int) dp_int) (da_cons (dp_ix rfl (dp_ix rfl (dp_var (pv 2)) dp_int) dp_int) (da_cons (dp_ix rfl (dp_ix rfl (dp_var (pv 3)) dp_int) dp_int) (da_cons (dp_var (pv 5)) da_nil))))))))
      (dss_cons (ds_set (ps_set (i := 8) sc__law_made_right.nd rfl (Or.inl rfl) (dp_if (dt_cmp op_isN dr_isN (dp_var (pv 5)) dp_non (nomark _)) dp_non (dp_cal (by exact c_law_pick) (by exact hr) (by decide) (by exact tk) (by rfl) (da_cons (dp_var (pv 0)) (da_cons (dp_lst (da_cons (dp_m0 (pe_lower (dp_var (pv 5))) drm_lower) (da_cons (dp_m0 (pe_upper (dp_var (pv 5))) drm_upper) (da_cons dp_non da_nil)))) da_nil))))))
      (dss_cons (ds_set (ps_set (i := 9) sc__law_made_right.nd rfl (Or.inr rfl) (dp_tup (da_cons (dp_ix rfl (dp_ix rfl (dp_var (pv 2)) dp_int) dp_int) (da_cons (dp_ix rfl (dp_ix rfl (dp_var (pv 3)) dp_int) dp_int) (da_cons (dp_ix rfl (dp_ix rfl (dp_var (pv 2)) dp_int) dp_int) (da_cons (dp_ix rfl (dp_ix rfl (dp_var (pv 3)) dp_int) dp_int) (da_cons (dp_var (pv 8)) da_nil))))))))
      (dss_cons (ds_set (ps_set (i := 10) sc__law_made_right.nd rfl (Or.inl rfl) (dp_newK (by exact cArea_new1) (by exact hr) (by decide) (by exact tk) (by rfl) (da_cons (dp_cal (by exact c_law_made) (by exact hr) (by decide) (by exact tk) (by rfl) (da_cons (dp_var (pv 7)) da_nil)) (da_cons (dp_cal (by exact c_law_made) (by exact hr) (by decide) (by exact tk) (by rfl) (da_cons (dp_var (pv 9)) da_nil)) da_nil)) (dk_cons (dp_var (pv 4)) dk_nil))))
      (dss_cons (ds_if (dt_w (dw_or (dt_not (dt_val (dp_cal (by exact c_law_is_area) (by exact hr) (by decide) (by exact tk) (by rfl) (da_cons (dp_var (pv 10)) (da_cons (dp_var (pv 6)) da_nil))))) (dw_or1 (dt_cmp (op_neO (by exact cArea_eq) rfl (by exact hr) (by decide)) dr_neO (dp_var (pv 10)) (dp_cal (by exact c_law_area_made) (by exact hr) (by decide) (by exact tk) (by rfl) (da_cons (dp_var (pv 1)) da_nil)) (nomark _))))) (dss_one (ds_ret dp_bl)) dss_nil)
      (dss_cons (ds_asg (vs := [11, 12]) (ps_asg (dp_tup (da_cons (dp_cal (by exact c_law_made) (by exact hr) (by decide) (by exact tk) (by rfl) (da_cons (dp_add rfl (dp_slice (pe_slice (sl_X rfl) (dp_var (pv 9)) do_none (do_some dp_int))) (dp_tup (da_cons (dp_str [84, 104, 105, 114, 100]) da_nil))) da_nil)) (da_cons (dp_cal (by exact c_law_pick) (by exact hr) (by decide) (by exact tk) (by rfl) (da_cons (dp_var (pv 0)) (da_cons (dp_lst (da_cons (dp_str []) (da_cons (dp_str [99, 111, 108, 117, 109, 110]) (da_cons dp_int (da_cons dp_bl (da_cons (dp_lst (da_cons (dp_str [114, 111, 119, 115]) da_nil)) da_nil)))))) da_nil))) da_nil))) (dg_tup rfl rfl (dgs_cons (dg_of (pg_name (i := 11) sc__law_made_right.nd rfl (Or.inr rfl)) List.mem_cons_self) (dgs_cons (dg_of (pg_name (i := 12) sc__law_made_right.nd rfl (Or.inr rfl)) (List.mem_cons_of_mem _ List.mem_cons_self)) dgs_nil)))))
      (dss_cons (ds_if (dt_cmp (op_neIX (by exact cAddress_eq) rfl (by exact hr) (by decide)) dr_neI (dp_told (k := 8) T.d_law_told sc_law_told (by rfl) (by exact Or.inl rfl) (fun g => told_ok T (tk := tk) g) TB (by rfl) TM TU (hr.mono (by decide)) (LamX.lamS_by (sc := defScope (top 55)) (by decide +kernel)) (by rfl) (by exact fun _ _ _ _ _ => rfl) (fun A2 outer2 s2 H2 E2 f2 c2 hr2 => by exact (dp_newK (by exact cArea_new1) (by exact hr2) (by decide) (by exact (takes_of rfl rfl rfl rfl)) (by rfl) (da_cons (dp_cal (by exact c_law_made) (by exact hr2) (by decide) (by exact (takes_of rfl rfl rfl rfl)) (by rfl) (da_cons (dp_var (pv 7)) da_nil)) (da_cons (dp_var (pv 11)) da_nil)) (dk_cons (dp_var (pv 12)) dk_nil)))) (dp_tup (da_cons (dp_str [66, 97, 100, 86, 97, 108, 117, 101]) (da_cons (dp_var (pv 11)) da_nil))) (nomark _)) (dss_one (ds_ret dp_bl)) dss_nil)
      (dss_cons (ds_if (dt_cmp (op_neIX (by exact cAddress_eq) rfl (by exact hr) (by decide)) dr_neI (dp_told (k := 8) T.d_law_told sc_law_told (by rfl) (by exact Or.inl rfl) (fun g => told_ok T (tk := tk) g) TB (by rfl) TM TU (hr.mono (by decide)) (LamX.lamS_by (sc := defScope (top 55)) (by decide +kernel)) (by rfl) (by exact fun _ _ _ _ _ => rfl) (fun A2 outer2 s2 H2 E2 f2 c2 hr2 => by exact (dp_newK (by exact cArea_new1) (by exact hr2) (by decide) (by exact (takes_of rfl rfl rfl rfl)) (by rfl) (da_cons (dp_cal (by exact c_law_made) (by exact hr2) (by decide) (by exact (takes_of rfl rfl rfl rfl)) (by rfl) (da_cons (dp_var (pv 7)) da_nil)) (da_cons (dp_cal (by exact c_law_made) (by exact hr2) (by decide) (by exact (takes_of rfl rfl rfl rfl)) (by rfl) (da_cons (dp_var (pv 9)) da_nil)) da_nil)) (dk_cons (dp_var (pv 12)) dk_nil)))) (dp_tup (da_cons (dp_str [66, 97, 100, 86, 97, 108, 117, 101]) (da_cons (dp_var (pv 12)) da_nil))) (nomark _)) (dss_one (ds_ret dp_bl)) dss_nil)
      (dss_one (ds_ret (dp_cmp (op_eqO (by exact cArea_eq) rfl (by exact hr) (by decide)) dr_eqO (dp_told (k := 8) T.d_law_told sc_law_told (by rfl) (by exact Or.inl rfl) (fun g => told_ok T (tk := tk) g) TB (by rfl) TM TU (hr.mono (by decide)) (LamX.lamS_by (sc := defScope (top 55)) (by decide +kernel)) (by rfl) (by exact fun _ _ _ _ _ => rfl) (fun A2 outer2 s2 H2 E2 f2 c2 hr2 => by exact (dp_newK (by exact cArea_new1) (by exact hr2) (by decide) (by exact (takes_of rfl rfl rfl rfl)) (by rfl) (da_cons (dp_cal (by exact c_law_made) (by exact hr2) (by decide) (by exact (takes_of rfl rfl rfl rfl)) (by rfl) (da_cons (dp_var (pv 7)) da_nil)) (da_cons (dp_str [65, 49]) da_nil)) (dk_cons (dp_var (pv 12)) dk_nil)))) (dp_tup (da_cons (dp_str [66, 97, 100, 86, 97, 108, 117, 101]) (da_cons (dp_str [65, 49]) da_nil))) (nomark _)))))))))))))))
theorem b_need_area (T : Txt P K mg A)  (f : Addr) (cdv : Value) (A0 : Around) (outer : List Env) (s0 : Shared) (H : Hp) (E : XK) (hr : Room 1 (A0.deeper (envOfC "need_area" (defScope (top 31)) s0.heap.objs.size f cdv))) :
    PSs (XC P w K mg base N_need_area "need_area" (top 31) f cdv A0 outer s0 H E) (defBody (top 31)) (liftS (MM K Tb pn cs) (fun cls d _ H' => E cls d H') (t_need_area K A cs)) := by
  have tk : Takes (XC P w K mg base N_need_area "need_area" (top 31) f cdv A0 outer s0 H E) (fun cls d _ H => E cls d H) := takes_of rfl rfl rfl rfl
  have hp : PassesOwn (model P w) (XC P w K mg base N_need_area "need_area" (top 31) f cdv A0 outer s0 H E).A (XC P w K mg base N_need_area "need_area" (top 31) f cdv A0 outer s0 H E).env (XC P w K mg base N_need_area "need_area" (top 31) f cdv A0 outer s0 H E).xe := passes_of rfl
  exact (dss_one (ds_if (dt_not (dt_val (dp_bfn (call_isi) (drc_isi rfl) (by rfl) T.n_isinstance PyProof.Rows.boot_isinstance (da_cons (dp_var (pv 0)) (da_cons (dp_cls (by rfl) (by exact T.c_Area)) da_nil))))) (dss_one (ds_raise (ps_raiseErr rfl T.e_BadValue hr tk (da_cons (dp_var (pv 0)) da_nil) (by rfl) (by decide)))) dss_nil))
theorem b_plain_area (T : Txt P K mg A) (cAddress_new2 : NewD P w K mg base (MM K Tb pn cs) 5 "Address" 2 ["sheet"] g_Address_new2 (s_Address A)) (cArea_new1 : NewD P w K mg base (MM K Tb pn cs) 7 "Area" 2 ["whole"] g_Area_new1 (s_Area A)) (f : Addr) (cdv : Value) (A0 : Around) (outer : List Env) (s0 : Shared) (H : Hp) (E : XK) (hr : Room 8 (A0.deeper (envOfC "plain_area" (defScope (top 26)) s0.heap.objs.size f cdv))) :
    PSs (XC P w K mg base N_plain_area "plain_area" (top 26) f cdv A0 outer s0 H E) (defBody (top 26)) (liftS (MM K Tb pn cs) (fun cls d _ H' => E cls d H') (t_plain_area K A cs)) := by
  have tk : Takes (XC P w K mg base N_plain_area "plain_area" (top 26) f cdv A0 outer s0 H E) (fun cls d _ H => E cls d H) := takes_of rfl rfl rfl rfl
  have hp : PassesOwn (model P w) (XC P w K mg base N_plain_area "plain_area" (top 26) f cdv A0 outer s0 H E).A (XC P w K mg base N_plain_area "plain_area" (top 26) f cdv A0 outer s0 H E).env (XC P w K mg base N_plain_area "plain_area" (top 26) f cdv A0 outer s0 H E).xe := passes_of rfl
  exact (dss_one (ds_ret (dp_newK (by exact cArea_new1) (by exact hr) (by decide) (by exact tk) (by rfl) (da_cons (dp_newK (by exact cAddress_new2) (by exact hr) (by decide) (by exact tk) (by rfl) (da_cons (dp_var (pv 0)) (da_cons (dp_var (pv 1)) da_nil)) (dk_cons (dp_var (pv 4)) dk_nil)) (da_cons (dp_newK (by exact cAddress_new2) (by exact hr) (by decide) (by exact tk) (by rfl) (da_cons (dp_var (pv 2)) (da_cons (dp_var (pv 3)) da_nil)) (dk_cons (dp_var (pv 4)) dk_nil)) da_nil)) (dk_cons (dp_var (pv 5)) dk_nil))))
theorem b_may_meet (T : Txt P K mg A) (csame_sheets : CalD P w K mg base (MM K Tb pn cs) 2 "same_sheets" ["one", "other"] (s_same_sheets A)) (f : Addr) (cdv : Value) (A0 : Around) (outer : List Env) (s0 : Shared) (H : Hp) (E : XK) (hr : Room 2 (A0.deeper (envOfC "may_meet" (defScope (top 32)) s0.heap.objs.size f cdv))) :
    PSs (XC P w K mg base N_may_meet "may_meet" (top 32) f cdv A0 outer s0 H E) (defBody (top 32)) (liftS (MM K Tb pn cs) (fun cls d _ H' => E cls d H') (t_may_meet K A cs)) := by
  have tk : Takes (XC P w K mg base N_may_meet "may_meet" (top 32) f cdv A0 outer s0 H E) (fun cls d _ H => E cls d H) := takes_of rfl rfl rfl rfl
  have hp : PassesOwn (model P w) (XC P w K mg base N_may_meet "may_meet" (top 32) f cdv A0 outer s0 H E).A (XC P w K mg base N_may_meet "may_meet" (top 32) f cdv A0 outer s0 H E).env (XC P w K mg base N_may_meet "may_meet" (top 32) f cdv A0 outer s0 H E).xe := passes_of rfl
  exact (dss_one (ds_ret (dp_or (dp_cmp op_isN dr_isN (dp_var (pv 0)) dp_non (nomark _)) (dp_or (dp_cmp op_isN dr_isN (dp_var (pv 1)) dp_non (nomark _)) (dp_one (dp_cal (by exact csame_sheets) (by exact hr) (by decide) (by exact tk) (by rfl) (da_cons (dp_var (pv 0)) (da_cons (dp_var (pv 1)) da_nil))))))))
theorem b_common_area (T : Txt P K mg A) (cmay_meet : CalD P w K mg base (MM K Tb pn cs) 3 "may_meet" ["one", "other"] (s_may_meet A)) (cplain_area : CalD P w K mg base (MM K Tb pn cs) 9 "plain_area" ["top", "left", "bottom", "right", "sheet", "whole"] (s_plain_area A)) (f : Addr) (cdv : Value) (A0 : Around) (outer : List Env) (s0 : Shared) (H : Hp) (E : XK) (hr : Room 9 (A0.deeper (envOfC "common_area" (defScope (top 33)) s0.heap.objs.size f cdv))) :
    PSs (XC P w K mg base N_common_area "common_area" (top 33) f cdv A0 outer s0 H E) (defBody (top 33)) (liftS (MM K Tb pn cs) (fun cls d _ H' => E cls d H') (t_common_area K A cs)) := by
  have tk : Takes (XC P w K mg base N_common_area "common_area" (top 33) f cdv A0 outer s0 H E) (fun cls d _ H => E cls d H) := takes_of rfl rfl rfl rfl
  have hp : PassesOwn (model P w) (XC P w K mg base N_common_area "common_area" (top 33) f cdv A0 outer s0 H E).A (XC P w K mg base N_common_area "common_area" (top 33) f cdv A0 outer s0 H E).env (XC P w K mg base N_common_area "common_area" (top 33) f cdv A0 outer s0 H E).xe := passes_of rfl
  exact (dss_cons (ds_par (ps_par (i := 2) (j := 3) rfl sc_common_area.nd rfl rfl (by decide) rfl rfl (da_cons (dp_bfn (call_max2 rfl) (drc_max) (by rfl) T.n_max PyProof.Rows.boot_max (da_cons (dp_fld T.fl_row (dp_fld T.fl_first (dp_var (pv 0)))) (da_cons (dp_fld T.fl_row (dp_fld T.fl_first (dp_var (pv 1)))) da_nil))) (da_cons (dp_bfn (call_min2 rfl) (drc_min) (by rfl) T.n_min PyProof.Rows.boot_min (da_cons (dp_fld T.fl_row (dp_fld T.fl_last (dp_var (pv 0)))) (da_cons (dp_fld T.fl_row (dp_fld T.fl_last (dp_var (pv 1)))) da_nil))) da_nil)) rfl rfl))
      (dss_cons (ds_par (ps_par (i := 4) (j := 5) rfl sc_common_area.nd rfl rfl (by decide) rfl rfl (da_cons (dp_bfn (call_max2 rfl) (drc_max) (by rfl) T.n_max PyProof.Rows.boot_max (da_cons (dp_fld T.fl_column (dp_fld T.fl_first (dp_var (pv 0)))) (da_cons (dp_fld T.fl_column (dp_fld T.fl_first (dp_var (pv 1)))) da_nil))) (da_cons (dp_bfn (call_min2 rfl) (drc_min) (by rfl) T.n_min PyProof.Rows.boot_min (da_cons (dp_fld T.fl_column (dp_fld T.fl_last (dp_var (pv 0)))) (da_cons (dp_fld T.fl_column (dp_fld T.fl_last (dp_var (pv 1)))) da_nil))) da_nil)) rfl rfl))
      (dss_cons (ds_if (dt_w (dw_or (dt_cmp op_gtX dr_ord (dp_var (pv 2)) (dp_var (pv 3)) (nomark _)) (dw_or (dt_cmp op_gtX dr_ord (dp_var (pv 4)) (dp_var (pv 5)) (nomark _)) (dw_or1 (dt_not (dt_val (dp_cal (by exact cmay_meet) (by exact hr) (by decide) (by exact tk) (by rfl) (da_cons (dp_fld T.fl_sheet (dp_var (pv 0))) (da_cons (dp_fld T.fl_sheet (dp_var (pv 1))) da_nil))))))))) (dss_one (ds_ret dp_non)) dss_nil)
      (dss_cons (ds_set (ps_set (i := 6) sc_common_area.nd rfl (Or.inl rfl) (dp_if (dt_cmp op_notN dr_notN (dp_fld T.fl_sheet (dp_var (pv 0))) dp_non (nomark _)) (dp_fld T.fl_sheet (dp_var (pv 0))) (dp_fld T.fl_sheet (dp_var (pv 1))))))
      (dss_one (ds_ret (dp_cal (by exact cplain_area) (by exact hr) (by decide) (by exact tk) (by rfl) (da_cons (dp_var (pv 2)) (da_cons (dp_var (pv 4)) (da_cons (dp_var (pv 3)) (da_cons (dp_var (pv 5)) (da_cons (dp_var (pv 6)) (da_cons (dp_if (dt_cmp (op_eqX rfl (hu64 hr)) dr_eq (dp_fld T.fl_whole (dp_var (pv 0))) (dp_fld T.fl_whole (dp_var (pv 1))) (nomark _)) (dp_fld T.fl_whole (dp_var (pv 0))) dp_non) da_nil)))))))))))))
theorem b_Area_common (T : Txt P K mg A) (ccommon_area : CalD P w K mg base (MM K Tb pn cs) 10 "common_area" ["one", "other"] (s_common_area A)) (cneed_area : CalD P w K mg base (MM K Tb pn cs) 2 "need_area" ["value"] (s_need_area A)) (f : Addr) (cdv : Value) (A0 : Around) (outer : List Env) (s0 : Shared) (H : Hp) (E : XK) (hr : Room 10 (A0.deeper (envOfC "Area.common" (defScope (inClass (top 30) 3)) s0.heap.objs.size f cdv))) :
    PSs (XC P w K mg base N_Area_common "Area.common" (inClass (top 30) 3) f cdv A0 outer s0 H E) (defBody (inClass (top 30) 3)) (liftS (MM K Tb pn cs) (fun cls d _ H' => E cls d H') (t_Area_common K A cs)) := by
  have tk : Takes (XC P w K mg base N_Area_common "Area.common" (inClass (top 30) 3) f cdv A0 outer s0 H E) (fun cls d _ H => E cls d H) := takes_of rfl rfl rfl rfl
  have hp : PassesOwn (model P w) (XC P w K mg base N_Area_common "Area.common" (inClass (top 30) 3) f cdv A0 outer s0 H E).A (XC P w K mg base N_Area_common "Area.common" (inClass (top 30) 3) f cdv A0 outer s0 H E).env (XC P w K mg base N_Area_common "Area.common" (inClass (top 30) 3) f cdv A0 outer s0 H E).xe := passes_of rfl
  exact (dss_cons (ds_expr (dp_cal (by exact cneed_area) (by exact hr) (by decide) (by exact tk) (by rfl) (da_cons (dp_var (pv 1)) da_nil)))
      (dss_one (ds_ret (dp_cal (by exact ccommon_area) (by exact hr) (by decide) (by exact tk) (by rfl) (da_cons (dp_var (pv 0)) (da_cons (dp_var (pv 1)) da_nil))))))
theorem b_part_of (T : Txt P K mg A) (cplain_area : CalD P w K mg base (MM K Tb pn cs) 9 "plain_area" ["top", "left", "bottom", "right", "sheet", "whole"] (s_plain_area A)) (f : Addr) (cdv : Value) (A0 : Around) (outer : List Env) (s0 : Shared) (H : Hp) (E : XK) (hr : Room 9 (A0.deeper (envOfC "part_of" (defScope (top 34)) s0.heap.objs.size f cdv))) :
    PSs (XC P w K mg base N_part_of "part_of" (top 34) f cdv A0 outer s0 H E) (defBody (top 34)) (liftS (MM K Tb pn cs) (fun cls d _ H' => E cls d H') (t_part_of K A cs)) := by
  have tk : Takes (XC P w K mg base N_part_of "part_of" (top 34) f cdv A0 outer s0 H E) (fun cls d _ H => E cls d H) := takes_of rfl rfl rfl rfl
  have hp : PassesOwn (model P w) (XC P w K mg base N_part_of "part_of" (top 34) f cdv A0 outer s0 H E).A (XC P w K mg base N_part_of "part_of" (top 34) f cdv A0 outer s0 H E).env (XC P w K mg base N_part_of "part_of" (top 34) f cdv A0 outer s0 H E).xe := passes_of rfl
  exact (dss_cons (ds_if (dt_w (dw_or (dt_cmp op_gtX dr_ord (dp_var (pv 1)) (dp_var (pv 3)) (nomark _)) (dw_or1 (dt_cmp op_gtX dr_ord (dp_var (pv 2)) (dp_var (pv 4)) (nomark _))))) (dss_one (ds_ret (dp_lst da_nil))) dss_nil)
      (dss_cons (ds_set (ps_set (i := 5) sc_part_of.nd rfl (Or.inl rfl) dp_non))
      (dss_cons (ds_if (dt_w (dw_and (dt_cmp (op_eqX rfl (hu64 hr)) dr_eq (dp_fld T.fl_whole (dp_var (pv 0))) (dp_str [99, 111, 108, 117, 109, 110, 115]) (nomark _)) (dw_and1 (dt_cmp (op_eqX rfl (hu64 hr)) dr_eq (dp_add rfl (dp_sub (dp_var (pv 3)) (dp_var (pv 1))) dp_int) (dp_gi T.g_MOST_ROWS rfl) (nomark _))))) (dss_one (ds_set (ps_set (i := 5) sc_part_of.nd rfl (Or.inl rfl) (dp_str [99, 111, 108, 117, 109, 110, 115])))) dss_nil)
      (dss_cons (ds_if (dt_w (dw_and (dt_cmp (op_eqX rfl (hu64 hr)) dr_eq (dp_fld T.fl_whole (dp_var (pv 0))) (dp_str [114, 111, 119, 115]) (nomark _)) (dw_and1 (dt_cmp (op_eqX rfl (hu64 hr)) dr_eq (dp_add rfl (dp_sub (dp_var (pv 4)) (dp_var (pv 2))) dp_int) (dp_gi T.g_MOST_COLUMNS rfl) (nomark _))))) (dss_one (ds_set (ps_set (i := 5) sc_part_of.nd rfl (Or.inl rfl) (dp_str [114, 111, 119, 115])))) dss_nil)
      (dss_one (ds_ret (dp_lst (da_cons (dp_cal (by exact cplain_area) (by exact hr) (by decide) (by exact tk) (by rfl) (da_cons (dp_var (pv 1)) (da_cons (dp_var (pv 2)) (da_cons (dp_var (pv 3)) (da_cons (dp_var (pv 4)) (da_cons (dp_fld T.fl_sheet (dp_var (pv 0))) (da_cons (dp_var (pv 5)) da_nil))))))) da_nil))))))))
theorem b_parts_without (T : Txt P K mg A) (cpart_of : CalD P w K mg base (MM K Tb pn cs) 10 "part_of" ["area", "top", "left", "bottom", "right"] (s_part_of A)) (f : Addr) (cdv : Value) (A0 : Around) (outer : List Env) (s0 : Shared) (H : Hp) (E : XK) (hr : Room 10 (A0.deeper (envOfC "parts_without" (defScope (top 35)) s0.heap.objs.size f cdv))) :
    PSs (XC P w K mg base N_parts_without "parts_without" (top 35) f cdv A0 outer s0 H E) (defBody (top 35)) (liftS (MM K Tb pn cs) (fun cls d _ H' => E cls d H') (t_parts_without K A cs)) := by
  have tk : Takes (XC P w K mg base N_parts_without "parts_without" (top 35) f cdv A0 outer s0 H E) (fun cls d _ H => E cls d H) := takes_of rfl rfl rfl rfl
  have hp : PassesOwn (model P w) (XC P w K mg base N_parts_without "parts_without" (top 35) f cdv A0 outer s0 H E).A (XC P w K mg base N_parts_without "parts_without" (top 35) f cdv A0 outer s0 H E).env (XC P w K mg base N_parts_without "parts_without" (top 35) f cdv A0 outer s0 H E).xe := passes_of rfl
  exact (dss_cons (ds_asg (vs := [2, 3, 4, 5]) (ps_asg (dp_tup (da_cons (dp_fld T.fl_row (dp_fld T.fl_first (dp_var (pv 0)))) (da_cons (dp_fld T.fl_column (dp_fld T.fl_first (dp_var (pv 0)))) (da_cons (dp_fld T.fl_row (dp_fld T.fl_last (dp_var (pv 0)))) (da_cons (dp_fld T.fl_column (dp_fld T.fl_last (dp_var (pv 0)))) da_nil))))) (dg_tup rfl rfl (dgs_cons (dg_of (pg_name (i := 2) sc_parts_without.nd rfl (Or.inl rfl)) (by decide)) (dgs_cons (dg_of (pg_name (i := 3) sc_parts_without.nd rfl (Or.inl rfl)) (by decide)) (dgs_cons (dg_of (pg_name (i := 4) sc_parts_without.nd rfl (Or.inl rfl)) (by decide)) (dgs_cons (dg_of (pg_name (i := 5) sc_parts_without.nd rfl (Or.inl rfl)) (by decide)) dgs_nil)))))))
      (dss_cons (ds_if (dt_cmp op_isN dr_isN (dp_var (pv 1)) dp_non (nomark _)) (dss_one (ds_ret (dp_cal (by exact cpart_of) (by exact hr) (by decide) (by exact tk) (by rfl) (da_cons (dp_var (pv 0)) (da_cons (dp_var (pv 2)) (da_cons (dp_var (pv 3)) (da_cons (dp_var (pv 4)) (da_cons (dp_var (pv 5)) da_nil)))))))) dss_nil)
      (dss_cons (ds_set (ps_set (i := 6) sc_parts_without.nd rfl (Or.inl rfl) (dp_cal (by exact cpart_of) (by exact hr) (by decide) (by exact tk) (by rfl) (da_cons (dp_var (pv 0)) (da_cons (dp_var (pv 2)) (da_cons (dp_var (pv 3)) (da_cons (dp_sub (dp_fld T.fl_row (dp_fld T.fl_first (dp_var (pv 1)))) dp_int) (da_cons (dp_var (pv 5)) da_nil))))))))
      (dss_cons (ds_set (ps_set (i := 7) sc_parts_without.nd rfl (Or.inl rfl) (dp_cal (by exact cpart_of) (by exact hr) (by decide) (by exact tk) (by rfl) (da_cons (dp_var (pv 0)) (da_cons (dp_add rfl (dp_fld T.fl_row (dp_fld T.fl_last (dp_var (pv 1)))) dp_int) (da_cons (dp_var (pv 3)) (da_cons (dp_var (pv 4)) (da_cons (dp_var (pv 5)) da_nil))))))))
      (dss_cons (ds_set (ps_set (i := 8) sc_parts_without.nd rfl (Or.inl rfl) (dp_cal (by exact cpart_of) (by exact hr) (by decide) (by exact tk) (by rfl) (da_cons (dp_var (pv 0)) (da_cons (dp_fld T.fl_row (dp_fld T.fl_first (dp_var (pv 1)))) (da_cons (dp_var (pv 3)) (da_cons (dp_fld T.fl_row (dp_fld T.fl_last (dp_var (pv 1)))) (da_cons (dp_sub (dp_fld T.fl_column (dp_fld T.fl_first (dp_var (pv 1)))) dp_int) da_nil))))))))
      (dss_cons (ds_set (ps_set (i := 9) sc_parts_without.nd rfl (Or.inl rfl) (dp_cal (by exact cpart_of) (by exact hr) (by decide) (by exact tk) (by rfl) (da_cons (dp_var (pv 0)) (da_cons (dp_fld T.fl_row (dp_fld T.fl_first (dp_var (pv 1)))) (da_cons (dp_add rfl (dp_fld T.fl_column (dp_fld T.fl_last (dp_var (pv 1)))) dp_int) (da_cons (dp_fld T.fl_row (dp_fld T.fl_last (dp_var (pv 1)))) (da_cons (dp_var (pv 5)) da_nil))))))))
      (dss_one (ds_ret (dp_add rfl (dp_add rfl (dp_add rfl (dp_var (pv 6)) (dp_var (pv 7))) (dp_var (pv 8))) (dp_var (pv 9)))))))))))
theorem b_Area_without (T : Txt P K mg A) (ccommon_area : CalD P w K mg base (MM K Tb pn cs) 10 "common_area" ["one", "other"] (s_common_area A)) (cneed_area : CalD P w K mg base (MM K Tb pn cs) 2 "need_area" ["value"] (s_need_area A)) (cparts_without : CalD P w K mg base (MM K Tb pn cs) 11 "parts_without" ["area", "hole"] (s_parts_without A)) (f : Addr) (cdv : Value) (A0 : Around) (outer : List Env) (s0 : Shared) (H : Hp) (E : XK) (hr : Room 11 (A0.deeper (envOfC "Area.without" (defScope (inClass (top 30) 4)) s0.heap.objs.size f cdv))) :
    PSs (XC P w K mg base N_Area_without "Area.without" (inClass (top 30) 4) f cdv A0 outer s0 H E) (defBody (inClass (top 30) 4)) (liftS (MM K Tb pn cs) (fun cls d _ H' => E cls d H') (t_Area_without K A cs)) := by
  have tk : Takes (XC P w K mg base N_Area_without "Area.without" (inClass (top 30) 4) f cdv A0 outer s0 H E) (fun cls d _ H => E cls d H) := takes_of rfl rfl rfl rfl
  have hp : PassesOwn (model P w) (XC P w K mg base N_Area_without "Area.without" (inClass (top 30) 4) f cdv A0 outer s0 H E).A (XC P w K mg base N_Area_without "Area.without" (inClass (top 30) 4) f cdv A0 outer s0 H E).env (XC P w K mg base N_Area_without "Area.without" (inClass (top 30) 4) f cdv A0 outer s0 H E).xe := passes_of rfl
  exact (dss_cons (ds_expr (dp_cal (by exact cneed_area) (by exact hr) (by decide) (by exact tk) (by rfl) (da_cons (dp_var (pv 1)) da_nil)))
      (dss_one (ds_ret (dp_bty call_tuple_of (drc_tuple rfl) (by rfl) T.n_tuple PyProof.Rows.boot_tuple (da_cons (dp_cal (by exact cparts_without) (by exact hr) (by decide) (by exact tk) (by rfl) (da_cons (dp_var (pv 0)) (da_cons (dp_cal (by exact ccommon_area) (by exact hr) (by decide) (by exact tk) (by rfl) (da_cons (dp_var (pv 0)) (da_cons (dp_var (pv 1)) da_nil))) da_nil))) da_nil)))))
theorem b__law_bare (T : Txt P K mg A)  (f : Addr) (cdv : Value) (A0 : Around) (outer : List Env) (s0 : Shared) (H : Hp) (E : XK) (hr : Room 1 (A0.deeper (envOfC "_law_bare" (defScope (top 52)) s0.heap.objs.size f cdv))) :
    PSs (XC P w K mg base N__law_bare "_law_bare" (top 52) f cdv A0 outer s0 H E) (defBody (top 52)) (liftS (MM K Tb pn cs) (fun cls d _ H' => E cls d H') (t__law_bare K A cs)) := by
  have tk : Takes (XC P w K mg base N__law_bare "_law_bare" (top 52) f cdv A0 outer s0 H E) (fun cls d _ H => E cls d H) := takes_of rfl rfl rfl rfl
  have hp : PassesOwn (model P w) (XC P w K mg base N__law_bare "_law_bare" (top 52) f cdv A0 outer s0 H E).A (XC P w K mg base N__law_bare "_law_bare" (top 52) f cdv A0 outer s0 H E).env (XC P w K mg base N__law_bare "_law_bare" (top 52) f cdv A0 outer s0 H E).xe := passes_of rfl
  exact (dss_one (ds_ret (dp_tup (da_cons (dp_lst (da_cons (dp_tup (da_cons (dp_var (pv 0)) (da_cons dp_bl da_nil))) (da_cons (dp_tup (da_cons (dp_var (pv 2)) (da_cons dp_bl da_nil))) da_nil))) (da_cons (dp_lst (da_cons (dp_tup (da_cons (dp_var (pv 1)) (da_cons dp_bl da_nil))) (da_cons (dp_tup (da_cons (dp_var (pv 3)) (da_cons dp_bl da_nil))) da_nil))) (da_cons (dp_var (pv 4)) (da_cons (dp_var (pv 5)) da_nil)))))))
theorem b__law_meet (T : Txt P K mg A)  (f : Addr) (cdv : Value) (A0 : Around) (outer : List Env) (s0 : Shared) (H : Hp) (E : XK) (hr : Room 1 (A0.deeper (envOfC "_law_meet" (defScope (top 50)) s0.heap.objs.size f cdv))) :
    PSs (XC P w K mg base N__law_meet "_law_meet" (top 50) f cdv A0 outer s0 H E) (defBody (top 50)) (liftS (MM K Tb pn cs) (fun cls d _ H' => E cls d H') (t__law_meet K A cs)) := by
  have tk : Takes (XC P w K mg base N__law_meet "_law_meet" (top 50) f cdv A0 outer s0 H E) (fun cls d _ H => E cls d H) := takes_of rfl rfl rfl rfl
  have hp : PassesOwn (model P w) (XC P w K mg base N__law_meet "_law_meet" (top 50) f cdv A0 outer s0 H E).A (XC P w K mg base N__law_meet "_law_meet" (top 50) f cdv A0 outer s0 H E).env (XC P w K mg base N__law_meet "_law_meet" (top 50) f cdv A0 outer s0 H E).xe := passes_of rfl
  exact (dss_one (ds_ret (dp_or (dp_cmp op_isN dr_isN (dp_var (pv 0)) dp_non (nomark _)) (dp_or (dp_cmp op_isN dr_isN (dp_var (pv 1)) dp_non (nomark _)) (dp_one (dp_cmp (op_eqX rfl (hu64 hr)) dr_eq (dp_m0 (pe_lower (dp_var (pv 0))) drm_lower) (dp_m0 (pe_lower (dp_var (pv 1))) drm_lower) (nomark _)))))))
theorem b__law_shared (T : Txt P K mg A) (c_law_bare : CalD P w K mg base (MM K Tb pn cs) 2 "_law_bare" ["_law_top", "_law_left", "_law_bottom", "_law_right", "_law_whole", "_law_sheet"] (s__law_bare A)) (c_law_meet : CalD P w K mg base (MM K Tb pn cs) 2 "_law_meet" ["_law_one", "_law_other"] (s__law_meet A)) (f : Addr) (cdv : Value) (A0 : Around) (outer : List Env) (s0 : Shared) (H : Hp) (E : XK) (hr : Room 2 (A0.deeper (envOfC "_law_shared" (defScope (top 53)) s0.heap.objs.size f cdv))) :
    PSs (XC P w K mg base N__law_shared "_law_shared" (top 53) f cdv A0 outer s0 H E) (defBody (top 53)) (liftS (MM K Tb pn cs) (fun cls d _ H' => E cls d H') (t__law_shared K A cs)) := by
  have tk : Takes (XC P w K mg base N__law_shared "_law_shared" (top 53) f cdv A0 outer s0 H E) (fun cls d _ H => E cls d H) := takes_of rfl rfl rfl rfl
  have hp : PassesOwn (model P w) (XC P w K mg base N__law_shared "_law_shared" (top 53) f cdv A0 outer s0 H E).A (XC P w K mg base N__law_shared "_law_shared" (top 53) f cdv A0 outer s0 H E).env (XC P w K mg base N__law_shared "_law_shared" (top 53) f cdv A0 outer s0 H E).xe := passes_of rfl
  exact (dss_cons (ds_par (ps_par (i := 2) (j := 3) rfl sc__law_shared.nd rfl rfl (by decide) rfl rfl (da_cons (dp_bfn (call_max2 rfl) (drc_max) (by rfl) T.n_max PyProof.Rows.boot_max (da_cons (dp_ix rfl (dp_ix rfl (dp_ix rfl (dp_var (pv 0)) dp_int) dp_int) dp_int) (da_cons (dp_ix rfl (dp_ix rfl (dp_ix rfl (dp_var (pv 1)) dp_int) dp_int) dp_int) da_nil))) (da_cons (dp_bfn (call_min2 rfl) (drc_min) (by rfl) T.n_min PyProof.Rows.boot_min (da_cons (dp_ix rfl (dp_ix rfl (dp_ix rfl (dp_var (pv 0)) dp_int) dp_int) dp_int) (da_cons (dp_ix rfl (dp_ix rfl (dp_ix rfl (dp_var (pv 1)) dp_int) dp_int) dp_int) da_nil))) da_nil)) rfl rfl))
      (dss_cons (ds_par (ps_par (i := 4) (j := 5) rfl sc__law_shared.nd rfl rfl (by decide) rfl rfl (da_cons (dp_bfn (call_max2 rfl) (drc_max) (by rfl) T.n_max PyProof.Rows.boot_max (da_cons (dp_ix rfl (dp_ix rfl (dp_ix rfl (dp_var (pv 0)) dp_int) dp_int) dp_int) (da_cons (dp_ix rfl (dp_ix rfl (dp_ix rfl (dp_var (pv 1)) dp_int) dp_int) dp_int) da_nil))) (da_cons (dp_bfn (call_min2 rfl) (drc_min) (by rfl) T.n_min PyProof.Rows.boot_min (da_cons (dp_ix rfl (dp_ix rfl (dp_ix rfl (dp_var (pv 0)) dp_int) dp_int) dp_int) (da_cons (dp_ix rfl (dp_ix rfl (dp_ix rfl (dp_var (pv 1)) dp_int) dp_int) dp_int) da_nil))) da_nil)) rfl rfl))
      (dss_cons (ds_if (dt_w (dw_or (dt_cmp op_gtX dr_ord (dp_var (pv 2)) (dp_var (pv 3)) (nomark _)) (dw_or (dt_cmp op_gtX dr_ord (dp_var (pv 4)) (dp_var (pv 5)) (nomark _)) (dw_or1 (dt_not (dt_val (dp_cal (by exact c_law_meet) (by exact hr) (by decide) (by exact tk) (by rfl) (da_cons (dp_ix rfl (dp_var (pv 0)) dp_int) (da_cons (dp_ix rfl (dp_var (pv 1)) dp_int) da_nil))))))))) (dss_one (ds_ret dp_non)) dss_nil)
      (dss_cons (ds_set (ps_set (i := 6) sc__law_shared.nd rfl (Or.inl rfl) (dp_if (dt_cmp op_isN dr_isN (dp_ix rfl (dp_var (pv 0)) dp_int) dp_non (nomark _)) (dp_ix rfl (dp_var (pv 1)) dp_int) (dp_ix rfl (dp_var (pv 0)) dp_int))))
      (dss_one (ds_ret (dp_cal (by exact c_law_bare) (by exact hr) (by decide) (by exact tk) (by rfl) (da_cons (dp_var (pv 2)) (da_cons (dp_var (pv 4)) (da_cons (dp_var (pv 3)) (da_cons (dp_var (pv 5)) (da_cons (dp_if (dt_cmp (op_eqX rfl (hu64 hr)) dr_eq (dp_ix rfl (dp_var (pv 0)) dp_int) (dp_ix rfl (dp_var (pv 1)) dp_int) (nomark _)) (dp_ix rfl (dp_var (pv 0)) dp_int) dp_non) (da_cons (dp_var (pv 6)) da_nil)))))))))))))
theorem b__law_left_over (T : Txt P K mg A) (c_law_bare : CalD P w K mg base (MM K Tb pn cs) 2 "_law_bare" ["_law_top", "_law_left", "_law_bottom", "_law_right", "_law_whole", "_law_sheet"] (s__law_bare A)) (f : Addr) (cdv : Value) (A0 : Around) (outer : List Env) (s0 : Shared) (H : Hp) (E : XK) (hr : Room 2 (A0.deeper (envOfC "_law_left_over" (defScope (top 54)) s0.heap.objs.size f cdv))) :
    PSs (XC P w K mg base N__law_left_over "_law_left_over" (top 54) f cdv A0 outer s0 H E) (defBody (top 54)) (liftS (MM K Tb pn cs) (fun cls d _ H' => E cls d H') (t__law_left_over K A cs)) := by
  have tk : Takes (XC P w K mg base N__law_left_over "_law_left_over" (top 54) f cdv A0 outer s0 H E) (fun cls d _ H => E cls d H) := takes_of rfl rfl rfl rfl
  have hp : PassesOwn (model P w) (XC P w K mg base N__law_left_over "_law_left_over" (top 54) f cdv A0 outer s0 H E).A (XC P w K mg base N__law_left_over "_law_left_over" (top 54) f cdv A0 outer s0 H E).env (XC P w K mg base N__law_left_over "_law_left_over" (top 54) f cdv A0 outer s0 H E).xe := passes_of rfl
  exact (dss_forg (dss_cons (ds_asg (vs := [2, 3, 4, 5]) (ps_asg (dp_tup (da_cons (dp_ix rfl (dp_ix rfl (dp_ix rfl (dp_var (pv 0)) dp_int) dp_int) dp_int) (da_cons (dp_ix rfl (dp_ix rfl (dp_ix rfl (dp_var (pv 0)) dp_int) dp_int) dp_int) (da_cons (dp_ix rfl (dp_ix rfl (dp_ix rfl (dp_var (pv 0)) dp_int) dp_int) dp_int) (da_cons (dp_ix rfl (dp_ix rfl (dp_ix rfl (dp_var (pv 0)) dp_int) dp_int) dp_int) da_nil))))) (dg_tup rfl rfl (dgs_cons (dg_of (pg_name (i := 2) sc__law_left_over.nd rfl (Or.inl rfl)) (by decide)) (dgs_cons (dg_of (pg_name (i := 3) sc__law_left_over.nd rfl (Or.inl rfl)) (by decide)) (dgs_cons (dg_of (pg_name (i := 4) sc__law_left_over.nd rfl (Or.inl rfl)) (by decide)) (dgs_cons (dg_of (pg_name (i := 5) sc__law_left_over.nd rfl (Or.inl rfl)) (by decide)) dgs_nil)))))))
      (dss_cons (ds_set (ps_set (i := 6) sc__law_left_over.nd rfl (Or.inl rfl) (dp_lst (da_cons (dp_tup (da_cons (dp_var (pv 2)) (da_cons (dp_var (pv 4)) (da_cons (dp_var (pv 3)) (da_cons (dp_var (pv 5)) da_nil))))) da_nil))))
      (dss_cons (ds_if (dt_cmp op_notN dr_notN (dp_var (pv 1)) dp_non (nomark _)) (dss_cons (ds_asg (vs := [7, 8, 9, 10]) (ps_asg (dp_tup (da_cons (dp_ix rfl (dp_ix rfl (dp_ix rfl (dp_var (pv 1)) dp_int) dp_int) dp_int) (da_cons (dp_ix rfl (dp_ix rfl (dp_ix rfl (dp_var (pv 1)) dp_int) dp_int) dp_int) (da_cons (dp_ix rfl (dp_ix rfl (dp_ix rfl (dp_var (pv 1)) dp_int) dp_int) dp_int) (da_cons (dp_ix rfl (dp_ix rfl (dp_ix rfl (dp_var (pv 1)) dp_int) dp_int) dp_int) da_nil))))) (dg_tup rfl rfl (dgs_cons (dg_of (pg_name (i := 7) sc__law_left_over.nd rfl (Or.inl rfl)) (by decide)) (dgs_cons (dg_of (pg_name (i := 8) sc__law_left_over.nd rfl (Or.inl rfl)) (by decide)) (dgs_cons (dg_of (pg_name (i := 9) sc__law_left_over.nd rfl (Or.inl rfl)) (by decide)) (dgs_cons (dg_of (pg_name (i := 10) sc__law_left_over.nd rfl (Or.inl rfl)) (by decide)) dgs_nil)))))))
      (dss_cons (ds_set (ps_set (i := 6) sc__law_left_over.nd rfl (Or.inl rfl) (dp_lst (da_cons (dp_tup (da_cons (dp_var (pv 2)) (da_cons (dp_var (pv 4)) (da_cons (dp_sub (dp_var (pv 7)) dp_int) (da_cons (dp_var (pv 5)) da_nil))))) (da_cons (dp_tup (da_cons (dp_add rfl (dp_var (pv 8)) dp_int) (da_cons (dp_var (pv 4)) (da_cons (dp_var (pv 3)) (da_cons (dp_var (pv 5)) da_nil))))) da_nil)))))
      (dss_one (ds_set (ps_set (i := 6) sc__law_left_over.nd rfl (Or.inl rfl) (dp_add rfl (dp_var (pv 6)) (dp_lst (da_cons (dp_tup (da_cons (dp_var (pv 7)) (da_cons (dp_var (pv 4)) (da_cons (dp_var (pv 8)) (da_cons (dp_sub (dp_var (pv 9)) dp_int) da_nil))))) (da_cons (dp_tup (da_cons (dp_var (pv 7)) (da_cons (dp_add rfl (dp_var (pv 10)) dp_int) (da_cons (dp_var (pv 8)) (da_cons (dp_var (pv 5)) da_nil))))) da_nil))))))))) dss_nil)
      (dss_cons (ds_set (ps_set (i := 11) sc__law_left_over.nd rfl (Or.inl rfl) (dp_lstM da_nil)))
      (dss_cons (ds_for (vs := [12]) hp rfl (di_list rfl (dp_var (pv 6))) (dg_of (pg_name (i := 12) sc__law_left_over.nd rfl (Or.inl rfl)) List.mem_cons_self) (dss_cons (ds_set (ps_set (i := 13) sc__law_left_over.nd rfl (Or.inl rfl) (dp_if (dt_cmp (op_eqX rfl (hu64 hr)) dr_eq (dp_ix rfl (dp_var (pv 0)) dp_int) (dp_str [99, 111, 108, 117, 109, 110, 115]) (nomark _)) (dp_cmp (op_eqX rfl (hu64 hr)) dr_eq (dp_sub (dp_ix rfl (dp_var (pv 12)) dp_int) (dp_ix rfl (dp_var (pv 12)) dp_int)) dp_int (nomark _)) (dp_cmp (op_eqX rfl (hu64 hr)) dr_eq (dp_sub (dp_ix rfl (dp_var (pv 12)) dp_int) (dp_ix rfl (dp_var (pv 12)) dp_int)) dp_int (nomark _)))))
      (dss_cons (ds_set (ps_set (i := 14) sc__law_left_over.nd rfl (Or.inl rfl) (dp_if (dt_w (dw_and (dt_cmp op_notN dr_notN (dp_ix rfl (dp_var (pv 0)) dp_int) dp_non (nomark _)) (dw_and1 (dt_val (dp_var (pv 13)))))) (dp_ix rfl (dp_var (pv 0)) dp_int) dp_non)))
      (dss_one (ds_if (dt_w (dw_and (dt_cmp op_leX dr_ord (dp_ix rfl (dp_var (pv 12)) dp_int) (dp_ix rfl (dp_var (pv 12)) dp_int) (nomark _)) (dw_and1 (dt_cmp op_leX dr_ord (dp_ix rfl (dp_var (pv 12)) dp_int) (dp_ix rfl (dp_var (pv 12)) dp_int) (nomark _))))) (dss_one (ds_expr (dp_app (pe_bm PySem.F.plainAttrs_list PySem.F.slot_list_append PySem.F.type_list_append mt_append (dp_var (pv 11)) (da_cons (dp_cal (by exact c_law_bare) (by exact hr) (by decide) (by exact tk) (by rfl) (da_cons (dp_ix rfl (dp_var (pv 12)) dp_int) (da_cons (dp_ix rfl (dp_var (pv 12)) dp_int) (da_cons (dp_ix rfl (dp_var (pv 12)) dp_int) (da_cons (dp_ix rfl (dp_var (pv 12)) dp_int) (da_cons (dp_var (pv 14)) (da_cons (dp_ix rfl (dp_var (pv 0)) dp_int) da_nil))))))) da_nil))))) dss_nil)))))
      (dss_one (ds_ret (dp_frz (dp_var (pv 11)))))))))))
theorem b__law_alike (T : Txt P K mg A)  (f : Addr) (cdv : Value) (A0 : Around) (outer : List Env) (s0 : Shared) (H : Hp) (E : XK) (hr : Room 1 (A0.deeper (envOfC "_law_alike" (defScope (top 51)) s0.heap.objs.size f cdv))) :
    PSs (XC P w K mg base N__law_alike "_law_alike" (top 51) f cdv A0 outer s0 H E) (defBody (top 51)) (liftS (MM K Tb pn cs) (fun cls d _ H' => E cls d H') (t__law_alike K A cs)) := by
  have tk : Takes (XC P w K mg base N__law_alike "_law_alike" (top 51) f cdv A0 outer s0 H E) (fun cls d _ H => E cls d H) := takes_of rfl rfl rfl rfl
  have hp : PassesOwn (model P w) (XC P w K mg base N__law_alike "_law_alike" (top 51) f cdv A0 outer s0 H E).A (XC P w K mg base N__law_alike "_law_alike" (top 51) f cdv A0 outer s0 H E).env (XC P w K mg base N__law_alike "_law_alike" (top 51) f cdv A0 outer s0 H E).xe := passes_of rfl
  exact (dss_cons (ds_if (dt_w (dw_or (dt_cmp (op_neX rfl (hu64 hr)) dr_ne (dp_slice (pe_slice (sl_X rfl) (dp_var (pv 0)) do_none (do_some dp_int))) (dp_slice (pe_slice (sl_X rfl) (dp_var (pv 1)) do_none (do_some dp_int))) (nomark _)) (dw_or1 (dt_cmp (op_neX rfl (hu64 hr)) dr_ne (dp_cmp op_isN dr_isN (dp_ix rfl (dp_var (pv 0)) dp_int) dp_non (nomark _)) (dp_cmp op_isN dr_isN (dp_ix rfl (dp_var (pv 1)) dp_int) dp_non (nomark _)) (nomark _))))) (dss_one (ds_ret dp_bl)) dss_nil)
      (dss_one (ds_ret (dp_or (dp_cmp op_isN dr_isN (dp_ix rfl (dp_var (pv 0)) dp_int) dp_non (nomark _)) (dp_one (dp_cmp (op_eqX rfl (hu64 hr)) dr_eq (dp_m0 (pe_lower (dp_ix rfl (dp_var (pv 0)) dp_int)) drm_lower) (dp_m0 (pe_lower (dp_ix rfl (dp_var (pv 1)) dp_int)) drm_lower) (nomark _)))))))
theorem b__law_pair_right (T : Txt P K mg A) (cArea_common : MetD P w K mg base (MM K Tb pn cs) 11 A.Area "common" ["self", "other"] (s_Area_common A)) (cArea_eq : EqD P w K mg base (MM K Tb pn cs) 5 A.Area (s_Area_eq A)) (cArea_without : MetD P w K mg base (MM K Tb pn cs) 12 A.Area "without" ["self", "other"] (s_Area_without A)) (c_law_alike : CalD P w K mg base (MM K Tb pn cs) 2 "_law_alike" ["_law_one", "_law_other"] (s__law_alike A)) (c_law_area_made : CalD P w K mg base (MM K Tb pn cs) 9 "_law_area_made" ["_law_area_here"] (s__law_area_made A)) (c_law_is_area : CalD P w K mg base (MM K Tb pn cs) 3 "_law_is_area" ["_law_found", "_law_area_here"] (s__law_is_area A)) (c_law_left_over : CalD P w K mg base (MM K Tb pn cs) 3 "_law_left_over" ["_law_one", "_law_hole"] (s__law_left_over A)) (c_law_normal : CalD P w K mg base (MM K Tb pn cs) 5 "_law_normal" ["_law_area_here"] (s__law_normal A)) (c_law_shared : CalD P w K mg base (MM K Tb pn cs) 3 "_law_shared" ["_law_one", "_law_other"] (s__law_shared A)) (TB : LamX.TabB base mg A.k_law_pair_right A.p_law_pair_right) (TM : (A.p_law_pair_right, (("_law_pair_right" : Str) ++ ".<locals>." ++ "<lambda>")) ∈ Tb) (TU : ∀ p ∈ Tb, p.1 = A.p_law_pair_right → p.2 = (("_law_pair_right" : Str) ++ ".<locals>." ++ "<lambda>")) (f : Addr) (A0 : Around) (outer : List Env) (s0 : Shared) (H : Hp) (E : XK) (hr : Room 13 (A0.deeper (envOfC "_law_pair_right" (defScope (top 56)) s0.heap.objs.size f (.ref A.k_law_pair_right)))) :
    PSs (XC P w K mg base N__law_pair_right "_law_pair_right" (top 56) f (.ref A.k_law_pair_right) A0 outer s0 H E) (defBody (top 56)) (liftS (MM K Tb pn cs) (fun cls d _ H' => E cls d H') (t__law_pair_right K A cs)) := by
  have tk : Takes (XC P w K mg base N__law_pair_right "_law_pair_right" (top 56) f (.ref A.k_law_pair_right) A0 outer s0 H E) (fun cls d _ H => E cls d H) := takes_of rfl rfl rfl rfl
  have hp : PassesOwn (model P w) (XC P w K mg base N__law_pair_right "_law_pair_right" (top 56) f (.ref A.k_law_pair_right) A0 outer s0 H E).A (XC P w K mg base N__law_pair_right "_law_pair_right" (top 56) f (.ref A.k_law_pair_right) A0 outer s0 H E).env (XC P w K mg base N__law_pair_right "_law_pair_right" (top 56) f (.ref A.k_law_pair_right) A0 outer s0 H E).xe := passes_of rfl
  exact (dss_cons (ds_asg (vs := [3, 4]) (ps_asg (dp_tup (da_cons (dp_cal (by exact c_law_area_made) (by exact hr) (by decide) (by exact tk) (by rfl) (da_cons (dp_var (pv 1)) da_nil)) (da_cons (dp_cal (by exact c_law_area_made) (by exact hr) (by decide) (by exact tk) (by rfl) (da_cons (dp_var (pv 2)) da_nil)) da_nil))) (dg_tup rfl rfl (dgs_cons (dg_of (pg_name (i := 3) sc__law_pair_right.nd rfl (Or.inr rfl)) List.mem_cons_self) (dgs_cons (dg_of (pg_name (i := 4) sc__law_pair_right.nd rfl (Or.inl rfl)) (List.mem_cons_of_mem _ List.mem_cons_self)) dgs_nil)))))
      (dss_cons (ds_asg (vs := [1, 2]) (ps_asg (dp_tup (da_cons (dp_cal (by exact c_law_normal) (by exact hr) (by decide) (by exact tk) (by rfl) (da_cons (dp_var (pv 1)) da_nil)) (da_cons (dp_cal (by exact c_law_normal) (by exact hr) (by decide) (by exact tk) (by rfl) (da_cons (dp_var (pv 2)) da_nil)) da_nil))) (dg_tup rfl rfl (dgs_cons (dg_of (pg_name (i := 1) sc__law_pair_right.nd rfl (Or.inr rfl)) List.mem_cons_self) (dgs_cons (dg_of (pg_name (i := 2) sc__law_pair_right.nd rfl (Or.inl rfl)) (List.mem_cons_of_mem _ List.mem_cons_self)) dgs_nil)))))
      (dss_cons (ds_if (dt_w (dw_or (dt_cmp (op_neO (by exact cArea_eq) rfl (by exact hr) (by decide)) dr_neO (dp_cmp (op_eqO (by exact cArea_eq) rfl (by exact hr) (by decide)) dr_eqO (dp_var (pv 3)) (dp_var (pv 4)) (nomark _)) (dp_cal (by exact c_law_alike) (by exact hr) (by decide) (by exact tk) (by rfl) (da_cons (dp_var (pv 1)) (da_cons (dp_var (pv 2)) da_nil))) (nomark _)) (dw_or1 (dt_cmp (op_eqO (by exact cArea_eq) rfl (by exact hr) (by decide)) dr_eqO (dp_cmp (op_neO (by exact cArea_eq) rfl (by exact hr) (by decide)) dr_neO (dp_var (pv 3)) (dp_var (pv 4)) (nomark _)) (dp_cal (by exact c_law_alike) (by exact hr) (by decide) (by exact tk) (by rfl) (da_cons (dp_var (pv 1)) (da_cons (dp_var (pv 2)) da_nil))) (nomark _))))) (dss_one (ds_ret dp_bl)) dss_nil)
      (dss_cons (ds_par (ps_par (i := 5) (j := 6) rfl sc__law_pair_right.nd rfl rfl (by decide) rfl rfl (da_cons (dp_cal (by exact c_law_shared) (by exact hr) (by decide) (by exact tk) (by rfl) (da_cons (dp_var (pv 1)) (da_cons (dp_var (pv 2)) da_nil))) (da_cons (dp_met (by exact cArea_common) (by exact hr) (by decide) (by exact tk) (dp_var (pv 3)) (da_cons (dp_var (pv 4)) da_nil)) da_nil)) rfl rfl))
      (dss_cons (ds_if (dt_w (dw_or (dt_w (dw_and (dt_cmp op_isN dr_isN (dp_var (pv 5)) dp_non (nomark _)) (dw_and1 (dt_cmp op_notN dr_notN (dp_var (pv 6)) dp_non (nomark _))))) (dw_or1 (dt_w (dw_and (dt_cmp op_notN dr_notN (dp_var (pv 5)) dp_non (nomark _)) (dw_and1 (dt_not (dt_val (dp_cal (by exact c_law_is_area) (by exact hr) (by decide) (by exact tk) (by rfl) (da_cons (dp_var (pv 6)) (da_cons (dp_var (pv 5)) da_nil))))))))))) (dss_one (ds_ret dp_bl)) dss_nil)
      (dss_cons (ds_par (ps_par (i := 7) (j := 8) rfl sc__law_pair_right.nd rfl rfl (by decide) rfl rfl (da_cons (dp_cal (by exact c_law_left_over) (by exact hr) (by decide) (by exact tk) (by rfl) (da_cons (dp_var (pv 1)) (da_cons (dp_var (pv 5)) da_nil))) (da_cons (dp_met (by exact cArea_without) (by exact hr) (by decide) (by exact tk) (dp_var (pv 3)) (da_cons (dp_var (pv 4)) da_nil)) da_nil)) rfl rfl))
      (dss_cons (ds_if (dt_w (dw_or (dt_not (dt_val (dp_bfn (call_isi) (drc_isi rfl) (by rfl) T.n_isinstance PyProof.Rows.boot_isinstance (da_cons (dp_var (pv 8)) (da_cons (dp_ty (by rfl) (by exact T.n_tuple) PyProof.Rows.boot_tuple) da_nil))))) (dw_or1 (dt_cmp (op_neO (by exact cArea_eq) rfl (by exact hr) (by decide)) dr_neO (dp_bfn (call_len) (drc_len rfl) (by rfl) T.n_len PySem.boot_len (da_cons (dp_var (pv 8)) da_nil)) (dp_bfn (call_len) (drc_len rfl) (by rfl) T.n_len PySem.boot_len (da_cons (dp_var (pv 7)) da_nil)) (nomark _))))) (dss_one (ds_ret dp_bl)) dss_nil)
      (dss_cons (ds_for (vs := [9]) hp rfl (di_range1 (pi_range1 (by rfl) T.n_range (da_cons (dp_bfn (call_len) (drc_len rfl) (by rfl) T.n_len PySem.boot_len (da_cons (dp_var (pv 7)) da_nil)) da_nil))) (dg_of (pg_name (i := 9) sc__law_pair_right.nd rfl (Or.inl rfl)) List.mem_cons_self) (dss_one (ds_if (dt_not (dt_val (dp_cal (by exact c_law_is_area) (by exact hr) (by decide) (by exact tk) (by rfl) (da_cons (dp_ix rfl (dp_var (pv 8)) (dp_var (pv 9))) (da_cons (dp_ix rfl (dp_var (pv 7)) (dp_var (pv 9))) da_nil))))) (dss_one (ds_ret dp_bl)) dss_nil)))
      (dss_one (ds_ret (dp_cmp (op_eqO (by exact cArea_eq) rfl (by exact hr) (by decide)) dr_eqO (dp_told (k := 11) T.d_law_told sc_law_told (by rfl) (by exact Or.inl rfl) (fun g => told_ok T (tk := tk) g) TB (by rfl) TM TU (hr.mono (by decide)) (LamX.lamS_by (sc := defScope (top 56)) (by decide +kernel)) (by rfl) (by exact fun _ _ _ _ _ => rfl) (fun A2 outer2 s2 H2 E2 f2 c2 hr2 => by exact (dp_met (by exact cArea_common) (by exact hr2) (by decide) (by exact (takes_of rfl rfl rfl rfl)) (dp_var (pv 3)) (da_cons (dp_var (pv 1)) da_nil)))) (dp_tup (da_cons (dp_str [66, 97, 100, 86, 97, 108, 117, 101]) (da_cons (dp_var (pv 1)) da_nil))) (nomark _))))))))))))
theorem b_Area_has (T : Txt P K mg A) (cmay_meet : CalD P w K mg base (MM K Tb pn cs) 3 "may_meet" ["one", "other"] (s_may_meet A)) (cneed_address : CalD P w K mg base (MM K Tb pn cs) 2 "need_address" ["value"] (s_need_address A)) (f : Addr) (cdv : Value) (A0 : Around) (outer : List Env) (s0 : Shared) (H : Hp) (E : XK) (hr : Room 3 (A0.deeper (envOfC "Area.has" (defScope (inClass (top 30) 2)) s0.heap.objs.size f cdv))) :
    PSs (XC P w K mg base N_Area_has "Area.has" (inClass (top 30) 2) f cdv A0 outer s0 H E) (defBody (inClass (top 30) 2)) (liftS (MM K Tb pn cs) (fun cls d _ H' => E cls d H') (t_Area_has K A cs)) := by
  have tk : Takes (XC P w K mg base N_Area_has "Area.has" (inClass (top 30) 2) f cdv A0 outer s0 H E) (fun cls d _ H => E cls d H) := takes_of rfl rfl rfl rfl
  have hp : PassesOwn (model P w) (XC P w K mg base N_Area_has "Area.has" (inClass (top 30) 2) f cdv A0 outer s0 H E).A (XC P w K mg base N_Area_has "Area.has" (inClass (top 30) 2) f cdv A0 outer s0 H E).env (XC P w K mg base N_Area_has "Area.has" (inClass (top 30) 2) f cdv A0 outer s0 H E).xe := passes_of rfl
  exact (dss_cons (ds_expr (dp_cal (by exact cneed_address) (by exact hr) (by decide) (by exact tk) (by rfl) (da_cons (dp_var (pv 1)) da_nil)))
      (dss_cons (ds_if (dt_not (dt_val (dp_cal (by exact cmay_meet) (by exact hr) (by decide) (by exact tk) (by rfl) (da_cons (dp_fld T.fl_sheet (dp_var (pv 0))) (da_cons (dp_fld T.fl_sheet (dp_var (pv 1))) da_nil))))) (dss_one (ds_ret dp_bl)) dss_nil)
      (dss_cons (ds_set (ps_set (i := 2) sc_Area_has.nd rfl (Or.inl rfl) (dp_chain op_leX dr_ord op_leX dr_ord (dp_fld T.fl_row (dp_fld T.fl_first (dp_var (pv 0)))) (dp_fld T.fl_row (dp_var (pv 1))) (dp_fld T.fl_row (dp_fld T.fl_last (dp_var (pv 0)))))))
      (dss_one (ds_ret (dp_and (dp_var (pv 2)) (dp_one (dp_chain op_leX dr_ord op_leX dr_ord (dp_fld T.fl_column (dp_fld T.fl_first (dp_var (pv 0)))) (dp_fld T.fl_column (dp_var (pv 1))) (dp_fld T.fl_column (dp_fld T.fl_last (dp_var (pv 0))))))))))))
theorem b__law_has_right (T : Txt P K mg A) (cArea_has : MetD P w K mg base (MM K Tb pn cs) 4 A.Area "has" ["self", "address"] (s_Area_has A)) (c_law_area_made : CalD P w K mg base (MM K Tb pn cs) 9 "_law_area_made" ["_law_area_here"] (s__law_area_made A)) (c_law_draw : CalD P w K mg base (MM K Tb pn cs) 2 "_law_draw" ["_law_pen_here", "_law_span"] (s__law_draw A)) (c_law_made : CalD P w K mg base (MM K Tb pn cs) 7 "_law_made" ["_law_place"] (s__law_made A)) (c_law_meet : CalD P w K mg base (MM K Tb pn cs) 2 "_law_meet" ["_law_one", "_law_other"] (s__law_meet A)) (c_law_normal : CalD P w K mg base (MM K Tb pn cs) 5 "_law_normal" ["_law_area_here"] (s__law_normal A)) (c_law_pick : CalD P w K mg base (MM K Tb pn cs) 3 "_law_pick" ["_law_pen_here", "_law_menu"] (s__law_pick A)) (f : Addr) (cdv : Value) (A0 : Around) (outer : List Env) (s0 : Shared) (H : Hp) (E : XK) (hr : Room 9 (A0.deeper (envOfC "_law_has_right" (defScope (top 57)) s0.heap.objs.size f cdv))) :
    PSs (XC P w K mg base N__law_has_right "_law_has_right" (top 57) f cdv A0 outer s0 H E) (defBody (top 57)) (liftS (MM K Tb pn cs) (fun cls d _ H' => E cls d H') (t__law_has_right K A cs)) := by
  have tk : Takes (XC P w K mg base N__law_has_right "_law_has_right" (top 57) f cdv A0 outer s0 H E) (fun cls d _ H => E cls d H) := takes_of rfl rfl rfl rfl
  have hp : PassesOwn (model P w) (XC P w K mg base N__law_has_right "_law_has_right" (top 57) f cdv A0 outer s0 H E).A (XC P w K mg base N__law_has_right "_law_has_right" (top 57) f cdv A0 outer s0 H E).env (XC P w K mg base N__law_has_right "_law_has_right" (top 57) f cdv A0 outer s0 H E).xe := passes_of rfl
  exact (dss_cons (ds_par (ps_par (i := 3) (j := 4) rfl sc__law_has_right.nd rfl rfl (by decide) rfl rfl (da_cons (dp_cal (by exact c_law_area_made) (by exact hr) (by decide) (by exact tk) (by rfl) (da_cons (dp_var (pv 1)) da_nil)) (da_cons (dp_cal (by exact c_law_normal) (by exact hr) (by decide) (by exact tk) (by rfl) (da_cons (dp_var (pv 1)) da_nil)) da_nil)) rfl rfl))
      (dss_cons (ds_for (vs := [5]) hp rfl (di_range1 (pi_range1 (by rfl) T.n_range (da_cons dp_int da_nil))) (dg_of (pg_name (i := 5) sc__law_has_right.nd rfl (Or.inl rfl)) List.mem_cons_self) (dss_cons (ds_par (ps_par (i := 6) (j := 7) rfl sc__law_has_right.nd rfl rfl (by decide) rfl rfl (da_cons (dp_add rfl (dp_add rfl (dp_ix rfl (dp_var (pv 2)) dp_int) dp_int) (dp_cal (by exact c_law_draw) (by exact hr) (by decide) (by exact tk) (by rfl) (da_cons (dp_var (pv 0)) (da_cons dp_int da_nil)))) (da_cons (dp_add rfl (dp_add rfl (dp_ix rfl (dp_var (pv 2)) dp_int) dp_int) (dp_cal (by exact c_law_draw) (by exact hr) (by decide) (by exact tk) (by rfl) (da_cons (dp_var (pv 0)) (da_cons dp_int da_nil)))) da_nil)) rfl rfl))
      (dss_cons (ds_set (ps_set (i := 8) sc__law_has_right.nd rfl (Or.inl rfl) (dp_tup (da_cons (dp_var (pv 6)) (da_cons (dp_var (pv 7)) (da_cons (dp_cmp (op_eqX rfl (hu64 hr)) dr_eq (dp_cal (by exact c_law_draw) (by exact hr) (by decide) (by exact tk) (by rfl) (da_cons (dp_var (pv 0)) (da_cons dp_int da_nil))) dp_int (nomark _)) (da_cons dp_bl (da_cons (dp_cal (by exact c_law_pick) (by exact hr) (by decide) (by exact tk) (by rfl) (da_cons (dp_var (pv 0)) (da_cons (dp_lst (da_cons dp_non (da_cons (dp_str [111, 110, 101]) (da_cons (dp_str [84, 87, 79]) da_nil)))) da_nil))) da_nil))))))))
      (dss_cons (ds_set (ps_set (i := 9) sc__law_has_right.nd rfl (Or.inl rfl) (dp_and (dp_chain op_leX dr_ord op_leX dr_ord (dp_ix rfl (dp_ix rfl (dp_ix rfl (dp_var (pv 4)) dp_int) dp_int) dp_int) (dp_var (pv 6)) (dp_ix rfl (dp_ix rfl (dp_ix rfl (dp_var (pv 4)) dp_int) dp_int) dp_int)) (dp_one (dp_chain op_leX dr_ord op_leX dr_ord (dp_ix rfl (dp_ix rfl (dp_ix rfl (dp_var (pv 4)) dp_int) dp_int) dp_int) (dp_var (pv 7)) (dp_ix rfl (dp_ix rfl (dp_ix rfl (dp_var (pv 4)) dp_int) dp_int) dp_int))))))
      (dss_one (ds_if (dt_cmp (op_neX rfl (hu64 hr)) dr_ne (dp_met (by exact cArea_has) (by exact hr) (by decide) (by exact tk) (dp_var (pv 3)) (da_cons (dp_cal (by exact c_law_made) (by exact hr) (by decide) (by exact tk) (by rfl) (da_cons (dp_var (pv 8)) da_nil)) da_nil)) (dp_and (dp_var (pv 9)) (dp_one (dp_cal (by exact c_law_meet) (by exact hr) (by decide) (by exact tk) (by rfl) (da_cons (dp_ix rfl (dp_var (pv 4)) dp_int) (da_cons (dp_ix rfl (dp_var (pv 8)) dp_int) da_nil))))) (nomark _)) (dss_one (ds_ret dp_bl)) dss_nil))))))
      (dss_one (ds_ret dp_bl))))
theorem b_Area_cells (T : Txt P K mg A) (cAddress_new2 : NewD P w K mg base (MM K Tb pn cs) 5 "Address" 2 ["sheet"] g_Address_new2 (s_Address A)) (f : Addr) (cdv : Value) (A0 : Around) (outer : List Env) (s0 : Shared) (H : Hp) (E : XK) (hr : Room 6 (A0.deeper (envOfC "Area.cells" (defScope (inClass (top 30) 5)) s0.heap.objs.size f cdv))) :
    PSs (XC P w K mg base N_Area_cells "Area.cells" (inClass (top 30) 5) f cdv A0 outer s0 H E) (defBody (inClass (top 30) 5)) (liftS (MM K Tb pn cs) (fun cls d _ H' => E cls d H') (t_Area_cells K A cs)) := by
  have tk : Takes (XC P w K mg base N_Area_cells "Area.cells" (inClass (top 30) 5) f cdv A0 outer s0 H E) (fun cls d _ H => E cls d H) := takes_of rfl rfl rfl rfl
  have hp : PassesOwn (model P w) (XC P w K mg base N_Area_cells "Area.cells" (inClass (top 30) 5) f cdv A0 outer s0 H E).A (XC P w K mg base N_Area_cells "Area.cells" (inClass (top 30) 5) f cdv A0 outer s0 H E).env (XC P w K mg base N_Area_cells "Area.cells" (inClass (top 30) 5) f cdv A0 outer s0 H E).xe := passes_of rfl
  exact (dss_forg (dss_cons (ds_if (dt_cmp op_gtX dr_ord (dp_mul (dp_fld T.fl_height (dp_var (pv 0))) (dp_fld T.fl_width (dp_var (pv 0)))) (dp_gi T.g_MOST_CELLS rfl) (nomark _)) (dss_one (ds_raise (ps_raiseErr rfl T.e_TooMany hr tk (da_cons (dp_gi T.g_MOST_CELLS rfl) da_nil) (by rfl) (by decide)))) dss_nil)
      (dss_cons (ds_set (ps_set (i := 1) sc_Area_cells.nd rfl (Or.inl rfl) (dp_rngV (pe_callTy cr_range2 (by rfl) (by exact T.n_range) boot_range (da_cons (dp_fld T.fl_row (dp_fld T.fl_first (dp_var (pv 0)))) (da_cons (dp_add rfl (dp_fld T.fl_row (dp_fld T.fl_last (dp_var (pv 0)))) dp_int) da_nil))))))
      (dss_cons (ds_set (ps_set (i := 2) sc_Area_cells.nd rfl (Or.inr rfl) (dp_rngV (pe_callTy cr_range2 (by rfl) (by exact T.n_range) boot_range (da_cons (dp_fld T.fl_column (dp_fld T.fl_first (dp_var (pv 0)))) (da_cons (dp_add rfl (dp_fld T.fl_column (dp_fld T.fl_last (dp_var (pv 0)))) dp_int) da_nil))))))
      (dss_one (ds_ret (dp_bty call_tuple_of (drc_tuple rfl) (by rfl) T.n_tuple PyProof.Rows.boot_tuple (da_cons (dp_lc2 (pe_lc2 (own := [("row", 3), ("column", 4)]) (vs1 := [4]) rfl sc_Area_cells.nd (di_rngN (dp_var (pv 1))) (blkOk_by (N := N_Area_cells) (sc := defScope (inClass (top 30) 5)) (by decide +kernel)) (by decide) (fun s H C cl fp => dg_of (pg_name (i := 3) sc_Area_cells.nd rfl (Or.inl rfl)) List.mem_cons_self) (fun s H C cl fp => by exact dts_nil) (fun s H C cl fp => by exact (di_rngN (dp_var (pv 2)))) (fun s H C cl fp => dg_of (pg_name (i := 4) sc_Area_cells.nd rfl (Or.inl rfl)) List.mem_cons_self) (fun s H C cl fp => by exact dts_nil) (fun s H C cl fp => by exact (dp_newK (by exact cAddress_new2) (by exact hr) (by decide) (by exact LamX.takes0) (by rfl) (da_cons (dp_var (pv 3)) (da_cons (dp_var (pv 4)) da_nil)) (dk_cons (dp_fld T.fl_sheet (dp_var (pv 0))) dk_nil))))) da_nil))))))))
theorem b__law_cells_right (T : Txt P K mg A) (cArea_cells : MetD P w K mg base (MM K Tb pn cs) 7 A.Area "cells" ["self"] (s_Area_cells A)) (c_law_area_made : CalD P w K mg base (MM K Tb pn cs) 9 "_law_area_made" ["_law_area_here"] (s__law_area_made A)) (c_law_draw : CalD P w K mg base (MM K Tb pn cs) 2 "_law_draw" ["_law_pen_here", "_law_span"] (s__law_draw A)) (c_law_is : CalD P w K mg base (MM K Tb pn cs) 2 "_law_is" ["_law_address", "_law_place"] (s__law_is A)) (c_law_normal : CalD P w K mg base (MM K Tb pn cs) 5 "_law_normal" ["_law_area_here"] (s__law_normal A)) (TB : LamX.TabB base mg A.k_law_cells_right A.p_law_cells_right) (TM : (A.p_law_cells_right, (("_law_cells_right" : Str) ++ ".<locals>." ++ "<lambda>")) ∈ Tb) (TU : ∀ p ∈ Tb, p.1 = A.p_law_cells_right → p.2 = (("_law_cells_right" : Str) ++ ".<locals>." ++ "<lambda>")) (f : Addr) (A0 : Around) (outer : List Env) (s0 : Shared) (H : Hp) (E : XK) (hr : Room 9 (A0.deeper (envOfC "_law_cells_right" (defScope (top 58)) s0.heap.objs.size f (.ref A.k_law_cells_right)))) :
    PSs (XC P w K mg base N__law_cells_right "_law_cells_right" (top 58) f (.ref A.k_law_cells_right) A0 outer s0 H E) (defBody (top 58)) (liftS (MM K Tb pn cs) (fun cls d _ H' => E cls d H') (t__law_cells_right K A cs)) := by
  have tk : Takes (XC P w K mg base N__law_cells_right "_law_cells_right" (top 58) f (.ref A.k_law_cells_right) A0 outer s0 H E) (fun cls d _ H => E cls d H) := takes_of rfl rfl rfl rfl
  have hp : PassesOwn (model P w) (XC P w K mg base N__law_cells_right "_law_cells_right" (top 58) f (.ref A.k_law_cells_right) A0 outer s0 H E).A (XC P w K mg base N__law_cells_right "_law_cells_right" (top 58) f (.ref A.k_law_cells_right) A0 outer s0 H E).env (XC P w K mg base N__law_cells_right "_law_cells_right" (top 58) f (.ref A.k_law_cells_right) A0 outer s0 H E).xe := passes_of rfl
  exact (dss_cons (ds_if (dt_cmp (op_eqX rfl (hu64 hr)) dr_eq (dp_cal (by exact c_law_draw) (by exact hr) (by decide) (by exact tk) (by rfl) (da_cons (dp_var (pv 0)) (da_cons dp_int da_nil))) dp_int (nomark _)) (dss_cons (ds_set (ps_set (i := 2) sc__law_cells_right.nd rfl (Or.inl rfl) (dp_lst (da_cons (dp_tup (da_cons dp_int (da_cons dp_bl da_nil))) (da_cons (dp_tup (da_cons dp_int (da_cons dp_bl da_nil))) da_nil)))))
      (dss_one (ds_set (ps_set (i := 1) sc__law_cells_right.nd rfl (Or.inl rfl) (dp_tup (da_cons (dp_var (pv 2)) (da_cons (dp_lst (da_cons (dp_tup (da_cons dp_int (da_cons dp_bl da_nil))) (da_cons (dp_tup (da_cons (dp_add rfl dp_int (dp_cal (by exact c_law_draw) (by exact hr) (by decide) (by exact tk) (by rfl) (da_cons (dp_var (pv 0)) (da_cons dp_int da_nil)))) (da_cons dp_bl da_nil))) da_nil))) (da_cons dp_non (da_cons (dp_ix rfl (dp_var (pv 1)) dp_int) da_nil))))))))) dss_nil)
      (dss_cons (ds_asg (vs := [3, 4]) (ps_asg (dp_tup (da_cons (dp_cal (by exact c_law_area_made) (by exact hr) (by decide) (by exact tk) (by rfl) (da_cons (dp_var (pv 1)) da_nil)) (da_cons (dp_cal (by exact c_law_normal) (by exact hr) (by decide) (by exact tk) (by rfl) (da_cons (dp_var (pv 1)) da_nil)) da_nil))) (dg_tup rfl rfl (dgs_cons (dg_of (pg_name (i := 3) sc__law_cells_right.nd rfl (Or.inr rfl)) List.mem_cons_self) (dgs_cons (dg_of (pg_name (i := 4) sc__law_cells_right.nd rfl (Or.inl rfl)) (List.mem_cons_of_mem _ List.mem_cons_self)) dgs_nil)))))
      (dss_cons (ds_par (ps_par (i := 5) (j := 6) rfl sc__law_cells_right.nd rfl rfl (by decide) rfl rfl (da_cons (dp_add rfl (dp_sub (dp_ix rfl (dp_ix rfl (dp_ix rfl (dp_var (pv 4)) dp_int) dp_int) dp_int) (dp_ix rfl (dp_ix rfl (dp_ix rfl (dp_var (pv 4)) dp_int) dp_int) dp_int)) dp_int) (da_cons (dp_add rfl (dp_sub (dp_ix rfl (dp_ix rfl (dp_ix rfl (dp_var (pv 4)) dp_int) dp_int) dp_int) (dp_ix rfl (dp_ix rfl (dp_ix rfl (dp_var (pv 4)) dp_int) dp_int) dp_int)) dp_int) da_nil)) rfl rfl))
      (dss_cons (ds_set (ps_set (i := 7) sc__law_cells_right.nd rfl (Or.inl rfl) (dp_told (k := 7) T.d_law_told sc_law_told (by rfl) (by exact Or.inl rfl) (fun g => told_ok T (tk := tk) g) TB (by rfl) TM TU (hr.mono (by decide)) (LamX.lamS_by (sc := defScope (top 58)) (by decide +kernel)) (by rfl) (by exact fun _ _ _ _ _ => rfl) (fun A2 outer2 s2 H2 E2 f2 c2 hr2 => by exact (dp_met0 (by exact cArea_cells) (by exact hr2) (by decide) (by exact (takes_of rfl rfl rfl rfl)) (dp_var (pv 3)))))))
      (dss_cons (ds_if (dt_cmp op_gtX dr_ord (dp_mul (dp_var (pv 5)) (dp_var (pv 6))) dp_int (nomark _)) (dss_one (ds_ret (dp_cmp (op_eqX rfl (hu64 hr)) dr_eq (dp_var (pv 7)) (dp_tup (da_cons (dp_str [84, 111, 111, 77, 97, 110, 121]) (da_cons dp_int da_nil))) (nomark _)))) dss_nil)
      (dss_cons (ds_if (dt_w (dw_or (dt_cmp (op_neX rfl (hu64 hr)) dr_ne (dp_ix rfl (dp_var (pv 7)) dp_int) (dp_str [116, 111, 108, 100]) (nomark _)) (dw_or (dt_not (dt_val (dp_bfn (call_isi) (drc_isi rfl) (by rfl) T.n_isinstance PyProof.Rows.boot_isinstance (da_cons (dp_ix rfl (dp_var (pv 7)) dp_int) (da_cons (dp_ty (by rfl) (by exact T.n_tuple) PyProof.Rows.boot_tuple) da_nil))))) (dw_or1 (dt_cmp (op_neX rfl (hu64 hr)) dr_ne (dp_bfn (call_len) (drc_len rfl) (by rfl) T.n_len PySem.boot_len (da_cons (dp_ix rfl (dp_var (pv 7)) dp_int) da_nil)) (dp_mul (dp_var (pv 5)) (dp_var (pv 6))) (nomark _)))))) (dss_one (ds_ret dp_bl)) dss_nil)
      (dss_cons (ds_for (vs := [8]) hp rfl (di_range3 (pi_range3 (by rfl) T.n_range (da_cons dp_int (da_cons (dp_mul (dp_var (pv 5)) (dp_var (pv 6))) (da_cons (dp_if (dt_cmp op_ltX dr_ord (dp_var (pv 6)) dp_int (nomark _)) dp_int dp_int) da_nil))))) (dg_of (pg_name (i := 8) sc__law_cells_right.nd rfl (Or.inl rfl)) List.mem_cons_self) (dss_cons (ds_par (ps_par (i := 9) (j := 10) rfl sc__law_cells_right.nd rfl rfl (by decide) rfl rfl (da_cons (dp_add rfl (dp_ix rfl (dp_ix rfl (dp_ix rfl (dp_var (pv 4)) dp_int) dp_int) dp_int) (dp_div (dp_var (pv 8)) (dp_var (pv 6)))) (da_cons (dp_add rfl (dp_ix rfl (dp_ix rfl (dp_ix rfl (dp_var (pv 4)) dp_int) dp_int) dp_int) (dp_mod (dp_bty (call_int1) (drc_int) (by rfl) T.n_int PyProof.Rows.boot_int (da_cons (dp_var (pv 8)) da_nil)) (dp_var (pv 6)))) da_nil)) rfl rfl))
      (dss_one (ds_if (dt_not (dt_val (dp_cal (by exact c_law_is) (by exact hr) (by decide) (by exact tk) (by rfl) (da_cons (dp_ix rfl (dp_ix rfl (dp_var (pv 7)) dp_int) (dp_var (pv 8))) (da_cons (dp_tup (da_cons (dp_var (pv 9)) (da_cons (dp_var (pv 10)) (da_cons dp_bl (da_cons dp_bl (da_cons (dp_ix rfl (dp_var (pv 4)) dp_int) da_nil)))))) da_nil))))) (dss_one (ds_ret dp_bl)) dss_nil))))
      (dss_one (ds_ret dp_bl)))))))))
theorem b_law (T : Txt P K mg A) (c_law_area : CalD P w K mg base (MM K Tb pn cs) 4 "_law_area" ["_law_pen_here", "_law_base", "_law_sheets"] (s__law_area A)) (c_law_cells_right : CalD P w K mg base (MM K Tb pn cs) 10 "_law_cells_right" ["_law_pen_here", "_law_area_here"] (s__law_cells_right A)) (c_law_draw : CalD P w K mg base (MM K Tb pn cs) 2 "_law_draw" ["_law_pen_here", "_law_span"] (s__law_draw A)) (c_law_has_right : CalD P w K mg base (MM K Tb pn cs) 10 "_law_has_right" ["_law_pen_here", "_law_area_here", "_law_base"] (s__law_has_right A)) (c_law_made_right : CalD P w K mg base (MM K Tb pn cs) 11 "_law_made_right" ["_law_pen_here", "_law_area_here"] (s__law_made_right A)) (c_law_pair_right : CalD P w K mg base (MM K Tb pn cs) 14 "_law_pair_right" ["_law_pen_here", "_law_one", "_law_other"] (s__law_pair_right A)) (c_law_pick : CalD P w K mg base (MM K Tb pn cs) 3 "_law_pick" ["_law_pen_here", "_law_menu"] (s__law_pick A)) (f : Addr) (cdv : Value) (A0 : Around) (outer : List Env) (s0 : Shared) (H : Hp) (E : XK) (hr : Room 14 (A0.deeper (envOfC "law" (defScope (top 59)) s0.heap.objs.size f cdv))) :
    PSs (XC P w K mg base N_law "law" (top 59) f cdv A0 outer s0 H E) ((defBody (top 59)).drop 1) (liftS (MM K Tb pn cs) (fun cls d _ H' => E cls d H') (t_law K A cs)) := by
  have tk : Takes (XC P w K mg base N_law "law" (top 59) f cdv A0 outer s0 H E) (fun cls d _ H => E cls d H) := takes_of rfl rfl rfl rfl
  have hp : PassesOwn (model P w) (XC P w K mg base N_law "law" (top 59) f cdv A0 outer s0 H E).A (XC P w K mg base N_law "law" (top 59) f cdv A0 outer s0 H E).env (XC P w K mg base N_law "law" (top 59) f cdv A0 outer s0 H E).xe := passes_of rfl
  exact (dss_cons (ds_for (vs := [2]) hp rfl (di_range1 (pi_range1 (by rfl) T.n_range (da_cons dp_int da_nil))) (dg_of (pg_name (i := 2) sc_law.nd rfl (Or.inl rfl)) List.mem_cons_self) (dss_cons (ds_set (ps_set (i := 3) sc_law.nd rfl (Or.inl rfl) (dp_cal (by exact c_law_pick) (by exact hr) (by decide) (by exact tk) (by rfl) (da_cons (dp_var (pv 1)) (da_cons (dp_lst (da_cons (dp_tup (da_cons dp_int (da_cons dp_int da_nil))) (da_cons (dp_tup (da_cons dp_int (da_cons dp_int da_nil))) (da_cons (dp_tup (da_cons dp_int (da_cons dp_int da_nil))) (da_cons (dp_tup (da_cons dp_int (da_cons dp_int da_nil))) da_nil))))) da_nil)))))
      (dss_cons (ds_set (ps_set (i := 4) sc_law.nd rfl (Or.inl rfl) (dp_lst (da_cons dp_non (da_cons dp_non (da_cons (dp_str [79, 110, 101]) (da_cons (dp_str [111, 110, 101]) (da_cons (dp_str [84, 119, 111]) da_nil))))))))
      (dss_cons (ds_par (ps_par (i := 5) (j := 6) rfl sc_law.nd rfl rfl (by decide) rfl rfl (da_cons (dp_cal (by exact c_law_area) (by exact hr) (by decide) (by exact tk) (by rfl) (da_cons (dp_var (pv 1)) (da_cons (dp_var (pv 3)) (da_cons (dp_var (pv 4)) da_nil)))) (da_cons (dp_cal (by exact c_law_area) (by exact hr) (by decide) (by exact tk) (by rfl) (da_cons (dp_var (pv 1)) (da_cons (dp_var (pv 3)) (da_cons (dp_var (pv 4)) da_nil)))) da_nil)) rfl rfl))
      (dss_cons (ds_if (dt_cmp (op_eqX rfl (hu64 hr)) dr_eq (dp_cal (by exact c_law_draw) (by exact hr) (by decide) (by exact tk) (by rfl) (da_cons (dp_var (pv 1)) (da_cons dp_int da_nil))) dp_int (nomark _)) (dss_one (ds_set (ps_set (i := 6) sc_law.nd rfl (Or.inl rfl) (dp_tup (da_cons (dp_revL rfl (dp_ix rfl (dp_var (pv 5)) dp_int)) (da_cons (dp_ix rfl (dp_var (pv 5)) dp_int) (da_cons (dp_ix rfl (dp_var (pv 5)) dp_int) (da_cons (dp_ix rfl (dp_var (pv 5)) dp_int) da_nil)))))))) dss_nil)
      (dss_cons (ds_if (dt_w (dw_or (dt_not (dt_val (dp_cal (by exact c_law_made_right) (by exact hr) (by decide) (by exact tk) (by rfl) (da_cons (dp_var (pv 1)) (da_cons (dp_var (pv 5)) da_nil))))) (dw_or1 (dt_not (dt_val (dp_cal (by exact c_law_pair_right) (by exact hr) (by decide) (by exact tk) (by rfl) (da_cons (dp_var (pv 1)) (da_cons (dp_var (pv 5)) (da_cons (dp_var (pv 6)) da_nil))))))))) (dss_one (ds_ret dp_bl)) dss_nil)
      (dss_one (ds_if (dt_w (dw_or (dt_not (dt_val (dp_cal (by exact c_law_has_right) (by exact hr) (by decide) (by exact tk) (by rfl) (da_cons (dp_var (pv 1)) (da_cons (dp_var (pv 5)) (da_cons (dp_var (pv 3)) da_nil)))))) (dw_or1 (dt_not (dt_val (dp_cal (by exact c_law_cells_right) (by exact hr) (by decide) (by exact tk) (by rfl) (da_cons (dp_var (pv 1)) (da_cons (dp_var (pv 5)) da_nil)))))))) (dss_one (ds_ret dp_bl)) dss_nil))))))))
      (dss_one (ds_ret dp_bl)))
end
end K17

set_option Elab.async false
set_option linter.all false
set_option maxRecDepth 100000
set_option maxHeartbeats 8000000
set_option autoImplicit false
namespace K17
open PySem PySem.Spec PyProof.Rows L2 DL
theorem vals_pick (is : List Nat) : ∀ {vs : List V} {us : List Value}, Vals vs us → Vals (is.filterMap (vs[·]?)) (is.filterMap (us[·]?)) := by
  intro vs us h
  induction is with
  | nil => exact .nil
  | cons i is ih =>
    cases e : vs[i]? with
    | none =>
      have e2 : us[i]? = none := by
        rw [List.getElem?_eq_none_iff] at e ⊢
        rw [← h.length]
        exact e
      rw [List.filterMap_cons_none (by exact e), List.filterMap_cons_none (by exact e2)]
      exact ih
    | some x =>
      obtain ⟨u, e2, r⟩ := h.get e
      rw [List.filterMap_cons_some (by exact e), List.filterMap_cons_some (by exact e2)]
      exact .cons r ih
theorem isl_pick {M : LK} {G : Hp} (is : List Nat) {vs : List V} {ds : List D} (h : DL.IsL M G vs ds) : DL.IsL M G (is.filterMap (vs[·]?)) (is.filterMap (ds[·]?)) := by
  have get : ∀ {ds : List D} {vs : List V} (i : Nat), DL.IsL M G vs ds → (vs[i]? = none ∧ ds[i]? = none) ∨ ∃ v d, vs[i]? = some v ∧ ds[i]? = some d ∧ Is M G v d := by
    intro ds
    induction ds with
    | nil =>
      intro vs i h
      cases vs with
      | nil => exact .inl ⟨rfl, rfl⟩
      | cons v vs => simp only [DL.IsL] at h
    | cons d ds ih =>
      intro vs i h
      cases vs with
      | nil => simp only [DL.IsL] at h
      | cons v vs =>
        simp only [DL.IsL] at h
        cases i with
        | zero => exact .inr ⟨v, d, rfl, rfl, h.1⟩
        | succ i => exact ih i h.2
  induction is with
  | nil => simp only [List.filterMap_nil, DL.IsL]
  | cons i is ih =>
    rcases get i h with ⟨e, e2⟩ | ⟨v, d, e, e2, r⟩
    · rw [List.filterMap_cons_none (by exact e), List.filterMap_cons_none (by exact e2)]
      exact ih
    · rw [List.filterMap_cons_some (by exact e), List.filterMap_cons_some (by exact e2)]
      simp only [DL.IsL]
      exact ⟨r, ih⟩
section
variable {P : Program} {w : World} {K : PySem.W.Frag} {mg : Str → Option Value} {base : Heap} {A : Ad} {pn : Addr} {cs : List Int} {Tb : List (Addr × Str)}
theorem cal__law_draw (T : Txt P K mg A) (D : DefT K mg "_law_draw" (top 38) ["_law_pen_here", "_law_span"])  : CalD P w K mg base (MM K Tb pn cs) 2 "_law_draw" ["_law_pen_here", "_law_span"] (s__law_draw A) :=
  CalD.of (M := (MM K Tb pn cs)) D sc__law_draw (t__law_draw K A cs) (fun f cdv A0 outer s0 H E hr => b__law_draw T  f cdv A0 outer s0 H E hr) (fun ds n q e hl h => p__law_draw ds n q e hl h)
theorem cal__law_pick (T : Txt P K mg A) (D : DefT K mg "_law_pick" (top 39) ["_law_pen_here", "_law_menu"]) (c_law_draw : CalD P w K mg base (MM K Tb pn cs) 2 "_law_draw" ["_law_pen_here", "_law_span"] (s__law_draw A)) : CalD P w K mg base (MM K Tb pn cs) 3 "_law_pick" ["_law_pen_here", "_law_menu"] (s__law_pick A) :=
  CalD.of (M := (MM K Tb pn cs)) D sc__law_pick (t__law_pick K A cs) (fun f cdv A0 outer s0 H E hr => b__law_pick T c_law_draw f cdv A0 outer s0 H E hr) (fun ds n q e hl h => p__law_pick ds n q e hl h)
theorem cal__law_corners (T : Txt P K mg A) (D : DefT K mg "_law_corners" (top 43) ["_law_pen_here", "_law_base"]) (c_law_draw : CalD P w K mg base (MM K Tb pn cs) 2 "_law_draw" ["_law_pen_here", "_law_span"] (s__law_draw A)) : CalD P w K mg base (MM K Tb pn cs) 3 "_law_corners" ["_law_pen_here", "_law_base"] (s__law_corners A) :=
  CalD.of (M := (MM K Tb pn cs)) D sc__law_corners (t__law_corners K A cs) (fun f cdv A0 outer s0 H E hr => b__law_corners T c_law_draw f cdv A0 outer s0 H E hr) (fun ds n q e hl h => p__law_corners ds n q e hl h)
theorem cal__law_area (T : Txt P K mg A) (D : DefT K mg "_law_area" (top 45) ["_law_pen_here", "_law_base", "_law_sheets"]) (c_law_corners : CalD P w K mg base (MM K Tb pn cs) 3 "_law_corners" ["_law_pen_here", "_law_base"] (s__law_corners A)) (c_law_pick : CalD P w K mg base (MM K Tb pn cs) 3 "_law_pick" ["_law_pen_here", "_law_menu"] (s__law_pick A)) : CalD P w K mg base (MM K Tb pn cs) 4 "_law_area" ["_law_pen_here", "_law_base", "_law_sheets"] (s__law_area A) :=
  CalD.of (M := (MM K Tb pn cs)) D sc__law_area (t__law_area K A cs) (fun f cdv A0 outer s0 H E hr => b__law_area T c_law_corners c_law_pick f cdv A0 outer s0 H E hr) (fun ds n q e hl h => p__law_area ds n q e hl h)
theorem cal_is_integer (T : Txt P K mg A) (D : DefT K mg "is_integer" (top 8) ["value"])  : CalD P w K mg base (MM K Tb pn cs) 2 "is_integer" ["value"] (s_is_integer A) :=
  CalD.of (M := (MM K Tb pn cs)) D sc_is_integer (t_is_integer K A cs) (fun f cdv A0 outer s0 H E hr => b_is_integer T  f cdv A0 outer s0 H E hr) (fun ds n q e hl h => p_is_integer ds n q e hl h)
theorem cal_need_integer (T : Txt P K mg A) (D : DefT K mg "need_integer" (top 9) ["value"]) (cis_integer : CalD P w K mg base (MM K Tb pn cs) 2 "is_integer" ["value"] (s_is_integer A)) : CalD P w K mg base (MM K Tb pn cs) 3 "need_integer" ["value"] (s_need_integer A) :=
  CalD.of (M := (MM K Tb pn cs)) D sc_need_integer (t_need_integer K A cs) (fun f cdv A0 outer s0 H E hr => b_need_integer T cis_integer f cdv A0 outer s0 H E hr) (fun ds n q e hl h => p_need_integer ds n q e hl h)
theorem cal_need_truth (T : Txt P K mg A) (D : DefT K mg "need_truth" (top 10) ["value"])  : CalD P w K mg base (MM K Tb pn cs) 2 "need_truth" ["value"] (s_need_truth A) :=
  CalD.of (M := (MM K Tb pn cs)) D sc_need_truth (t_need_truth K A cs) (fun f cdv A0 outer s0 H E hr => b_need_truth T  f cdv A0 outer s0 H E hr) (fun ds n q e hl h => p_need_truth ds n q e hl h)
theorem cal_is_letter (T : Txt P K mg A) (D : DefT K mg "is_letter" (top 13) ["sign"])  : CalD P w K mg base (MM K Tb pn cs) 2 "is_letter" ["sign"] (s_is_letter A) :=
  CalD.of (M := (MM K Tb pn cs)) D sc_is_letter (t_is_letter K A cs) (fun f cdv A0 outer s0 H E hr => b_is_letter T  f cdv A0 outer s0 H E hr) (fun ds n q e hl h => p_is_letter ds n q e hl h)
theorem cal_is_digit (T : Txt P K mg A) (D : DefT K mg "is_digit" (top 12) ["sign"])  : CalD P w K mg base (MM K Tb pn cs) 2 "is_digit" ["sign"] (s_is_digit A) :=
  CalD.of (M := (MM K Tb pn cs)) D sc_is_digit (t_is_digit K A cs) (fun f cdv A0 outer s0 H E hr => b_is_digit T  f cdv A0 outer s0 H E hr) (fun ds n q e hl h => p_is_digit ds n q e hl h)
theorem cal_is_sheet_word (T : Txt P K mg A) (D : DefT K mg "is_sheet_word" (top 15) ["word"]) (cis_digit : CalD P w K mg base (MM K Tb pn cs) 2 "is_digit" ["sign"] (s_is_digit A)) (cis_letter : CalD P w K mg base (MM K Tb pn cs) 2 "is_letter" ["sign"] (s_is_letter A)) : CalD P w K mg base (MM K Tb pn cs) 3 "is_sheet_word" ["word"] (s_is_sheet_word A) :=
  CalD.of (M := (MM K Tb pn cs)) D sc_is_sheet_word (t_is_sheet_word K A cs) (fun f cdv A0 outer s0 H E hr => b_is_sheet_word T cis_digit cis_letter f cdv A0 outer s0 H E hr) (fun ds n q e hl h => p_is_sheet_word ds n q e hl h)
theorem cal_need_sheet_word (T : Txt P K mg A) (D : DefT K mg "need_sheet_word" (top 20) ["sheet"]) (cis_sheet_word : CalD P w K mg base (MM K Tb pn cs) 3 "is_sheet_word" ["word"] (s_is_sheet_word A)) : CalD P w K mg base (MM K Tb pn cs) 4 "need_sheet_word" ["sheet"] (s_need_sheet_word A) :=
  CalD.of (M := (MM K Tb pn cs)) D sc_need_sheet_word (t_need_sheet_word K A cs) (fun f cdv A0 outer s0 H E hr => b_need_sheet_word T cis_sheet_word f cdv A0 outer s0 H E hr) (fun ds n q e hl h => p_need_sheet_word ds n q e hl h)
theorem cal_is_on_grid (T : Txt P K mg A) (D : DefT K mg "is_on_grid" (top 19) ["row", "column"])  : CalD P w K mg base (MM K Tb pn cs) 2 "is_on_grid" ["row", "column"] (s_is_on_grid A) :=
  CalD.of (M := (MM K Tb pn cs)) D sc_is_on_grid (t_is_on_grid K A cs) (fun f cdv A0 outer s0 H E hr => b_is_on_grid T  f cdv A0 outer s0 H E hr) (fun ds n q e hl h => p_is_on_grid ds n q e hl h)
theorem ok_Address_init (T : Txt P K mg A) {f : Addr} {fd : FuncData} (F : Fun K "__init__" "Address.__init__" (inClass (top 22) 0) f fd) (cis_on_grid : CalD P w K mg base (MM K Tb pn cs) 2 "is_on_grid" ["row", "column"] (s_is_on_grid A)) (cneed_integer : CalD P w K mg base (MM K Tb pn cs) 3 "need_integer" ["value"] (s_need_integer A)) (cneed_sheet_word : CalD P w K mg base (MM K Tb pn cs) 4 "need_sheet_word" ["sheet"] (s_need_sheet_word A)) (cneed_truth : CalD P w K mg base (MM K Tb pn cs) 2 "need_truth" ["value"] (s_need_truth A)) : FnOk P w K mg base (L2.CX P w) 5 f fd ["self", "row", "column", "fixed_row", "fixed_column", "sheet"] (lift (MM K Tb pn cs) 6 (s_Address_init A)) :=
  dfn (M := (MM K Tb pn cs)) F sc_Address_init (t_Address_init K A cs) (fun cdv A0 outer s0 H E hr => b_Address_init T cis_on_grid cneed_integer cneed_sheet_word cneed_truth f cdv A0 outer s0 H E hr) (fun ds n q e hl h => p_Address_init ds n q e hl h)
theorem cal_Address_new0 (T : Txt P K mg A) {f : Addr} {fd : FuncData} (F : Fun K "__init__" "Address.__init__" (inClass (top 22) 0) f fd) (FD : FunD K "__init__" "Address.__init__" (defArgs (inClass (top 22) 0)) (defBody (inClass (top 22) 0)) (defScope (inClass (top 22) 0)) [] [("fixed_row", (.bl false)), ("fixed_column", (.bl false)), ("sheet", .non)] f fd) (mk : Mk K A.Address f) (cis_on_grid : CalD P w K mg base (MM K Tb pn cs) 2 "is_on_grid" ["row", "column"] (s_is_on_grid A)) (cneed_integer : CalD P w K mg base (MM K Tb pn cs) 3 "need_integer" ["value"] (s_need_integer A)) (cneed_sheet_word : CalD P w K mg base (MM K Tb pn cs) 4 "need_sheet_word" ["sheet"] (s_need_sheet_word A)) (cneed_truth : CalD P w K mg base (MM K Tb pn cs) 2 "need_truth" ["value"] (s_need_truth A)) : NewD P w K mg base (MM K Tb pn cs) 5 "Address" 2 ["fixed_row", "fixed_column", "sheet"] g_Address_new0 (s_Address A) := by
  obtain ⟨mv, kb⟩ := FD.kbinds0 (ps := ["self", "row", "column", "fixed_row", "fixed_column", "sheet"]) 3 ["fixed_row", "fixed_column", "sheet"] [] (fun {α : Type} us mv ws => ([0, 1, 2, 3, 4, 5] : List Nat).filterMap ((us ++ (mv ++ ws))[·]?)) (by simp) (by simp) (fun h1 h2 h3 => vals_pick _ (h1.append (h2.append h3)))
    (fun D doc pm an cdv ct us mv ws l1 l2 l3 => match us, l1, mv, l2, ws, l3 with | [_, _, _], _, [], _, [_, _, _], _ => rfl)
  refine ⟨A.Address, f, fd, _, _, _, 6, s_Address_init A, mk, T.c_Address, ok_Address_init T F cis_on_grid cneed_integer cneed_sheet_word cneed_truth, kb, fun G a vs zs ds es i1 i2 l1 l2 => ?_, new_Address⟩
  have i0 := isl_pick (M := (MM K Tb pn cs)) ([0, 1, 2, 3, 4, 5] : List Nat) (DL.IsL.append (vs := V.ref a :: vs) (ds := D.ref a :: ds) (by simp only [DL.IsL, Is]; exact ⟨trivial, i1⟩) (DL.IsL.append (vs := []) (ds := []) (by simp [DL.IsL, Is]) i2))
  match ds, l1, es, l2, i0 with
  | [d0, d1], _, [e0, e1, e2], _, i0 => exact ⟨i0, rfl⟩
theorem cal_Address_new2 (T : Txt P K mg A) {f : Addr} {fd : FuncData} (F : Fun K "__init__" "Address.__init__" (inClass (top 22) 0) f fd) (FD : FunD K "__init__" "Address.__init__" (defArgs (inClass (top 22) 0)) (defBody (inClass (top 22) 0)) (defScope (inClass (top 22) 0)) [] [("fixed_row", (.bl false)), ("fixed_column", (.bl false)), ("sheet", .non)] f fd) (mk : Mk K A.Address f) (cis_on_grid : CalD P w K mg base (MM K Tb pn cs) 2 "is_on_grid" ["row", "column"] (s_is_on_grid A)) (cneed_integer : CalD P w K mg base (MM K Tb pn cs) 3 "need_integer" ["value"] (s_need_integer A)) (cneed_sheet_word : CalD P w K mg base (MM K Tb pn cs) 4 "need_sheet_word" ["sheet"] (s_need_sheet_word A)) (cneed_truth : CalD P w K mg base (MM K Tb pn cs) 2 "need_truth" ["value"] (s_need_truth A)) : NewD P w K mg base (MM K Tb pn cs) 5 "Address" 2 ["sheet"] g_Address_new2 (s_Address A) := by
  obtain ⟨mv, kb⟩ := FD.kbinds0 (ps := ["self", "row", "column", "fixed_row", "fixed_column", "sheet"]) 3 ["sheet"] [("fixed_row", (.bl false)), ("fixed_column", (.bl false))] (fun {α : Type} us mv ws => ([0, 1, 2, 3, 4, 5] : List Nat).filterMap ((us ++ (mv ++ ws))[·]?)) (by simp) (by simp) (fun h1 h2 h3 => vals_pick _ (h1.append (h2.append h3)))
    (fun D doc pm an cdv ct us mv ws l1 l2 l3 => match us, l1, mv, l2, ws, l3 with | [_, _, _], _, [_, _], _, [_], _ => ⟨_, _, _, _, _, _, rfl, rfl, ⟨_, _, _, _, _, _, rfl, rfl, rfl⟩⟩)
  refine ⟨A.Address, f, fd, _, _, _, 6, s_Address_init A, mk, T.c_Address, ok_Address_init T F cis_on_grid cneed_integer cneed_sheet_word cneed_truth, kb, fun G a vs zs ds es i1 i2 l1 l2 => ?_, new_Address⟩
  have i0 := isl_pick (M := (MM K Tb pn cs)) ([0, 1, 2, 3, 4, 5] : List Nat) (DL.IsL.append (vs := V.ref a :: vs) (ds := D.ref a :: ds) (by simp only [DL.IsL, Is]; exact ⟨trivial, i1⟩) (DL.IsL.append (vs := [(.bl false), (.bl false)]) (ds := [(.bl false), (.bl false)]) (by simp [DL.IsL, Is]) i2))
  match ds, l1, es, l2, i0 with
  | [d0, d1], _, [e0], _, i0 => exact ⟨i0, rfl⟩
theorem cal_need_address (T : Txt P K mg A) (D : DefT K mg "need_address" (top 23) ["value"])  : CalD P w K mg base (MM K Tb pn cs) 2 "need_address" ["value"] (s_need_address A) :=
  CalD.of (M := (MM K Tb pn cs)) D sc_need_address (t_need_address K A cs) (fun f cdv A0 outer s0 H E hr => b_need_address T  f cdv A0 outer s0 H E hr) (fun ds n q e hl h => p_need_address T ds n q e hl h)
theorem cal_in_order (T : Txt P K mg A) (D : DefT K mg "in_order" (top 27) ["one", "other"])  : CalD P w K mg base (MM K Tb pn cs) 2 "in_order" ["one", "other"] (s_in_order A) :=
  CalD.of (M := (MM K Tb pn cs)) D sc_in_order (t_in_order K A cs) (fun f cdv A0 outer s0 H E hr => b_in_order T  f cdv A0 outer s0 H E hr) (fun ds n q e hl h => p_in_order ds n q e hl h)
theorem cal_normal_rows (T : Txt P K mg A) (D : DefT K mg "normal_rows" (top 28) ["first", "last", "whole"]) (cin_order : CalD P w K mg base (MM K Tb pn cs) 2 "in_order" ["one", "other"] (s_in_order A)) : CalD P w K mg base (MM K Tb pn cs) 3 "normal_rows" ["first", "last", "whole"] (s_normal_rows A) :=
  CalD.of (M := (MM K Tb pn cs)) D sc_normal_rows (t_normal_rows K A cs) (fun f cdv A0 outer s0 H E hr => b_normal_rows T cin_order f cdv A0 outer s0 H E hr) (fun ds n q e hl h => p_normal_rows ds n q e hl h)
theorem cal_normal_columns (T : Txt P K mg A) (D : DefT K mg "normal_columns" (top 29) ["first", "last", "whole"]) (cin_order : CalD P w K mg base (MM K Tb pn cs) 2 "in_order" ["one", "other"] (s_in_order A)) : CalD P w K mg base (MM K Tb pn cs) 3 "normal_columns" ["first", "last", "whole"] (s_normal_columns A) :=
  CalD.of (M := (MM K Tb pn cs)) D sc_normal_columns (t_normal_columns K A cs) (fun f cdv A0 outer s0 H E hr => b_normal_columns T cin_order f cdv A0 outer s0 H E hr) (fun ds n q e hl h => p_normal_columns ds n q e hl h)
theorem cal_same_sheets (T : Txt P K mg A) (D : DefT K mg "same_sheets" (top 21) ["one", "other"])  : CalD P w K mg base (MM K Tb pn cs) 2 "same_sheets" ["one", "other"] (s_same_sheets A) :=
  CalD.of (M := (MM K Tb pn cs)) D sc_same_sheets (t_same_sheets K A cs) (fun f cdv A0 outer s0 H E hr => b_same_sheets T  f cdv A0 outer s0 H E hr) (fun ds n q e hl h => p_same_sheets ds n q e hl h)
theorem ok_Area_init (T : Txt P K mg A) {f : Addr} {fd : FuncData} (F : Fun K "__init__" "Area.__init__" (inClass (top 30) 0) f fd) (cAddress_new0 : NewD P w K mg base (MM K Tb pn cs) 5 "Address" 2 ["fixed_row", "fixed_column", "sheet"] g_Address_new0 (s_Address A)) (cneed_address : CalD P w K mg base (MM K Tb pn cs) 2 "need_address" ["value"] (s_need_address A)) (cnormal_columns : CalD P w K mg base (MM K Tb pn cs) 3 "normal_columns" ["first", "last", "whole"] (s_normal_columns A)) (cnormal_rows : CalD P w K mg base (MM K Tb pn cs) 3 "normal_rows" ["first", "last", "whole"] (s_normal_rows A)) (csame_sheets : CalD P w K mg base (MM K Tb pn cs) 2 "same_sheets" ["one", "other"] (s_same_sheets A)) : FnOk P w K mg base (L2.CX P w) 7 f fd ["self", "first", "last", "whole"] (lift (MM K Tb pn cs) 4 (s_Area_init A)) :=
  dfn (M := (MM K Tb pn cs)) F sc_Area_init (t_Area_init K A cs) (fun cdv A0 outer s0 H E hr => b_Area_init T cAddress_new0 cneed_address cnormal_columns cnormal_rows csame_sheets f cdv A0 outer s0 H E hr) (fun ds n q e hl h => p_Area_init ds n q e hl h)
theorem cal_Area_new1 (T : Txt P K mg A) {f : Addr} {fd : FuncData} (F : Fun K "__init__" "Area.__init__" (inClass (top 30) 0) f fd) (FD : FunD K "__init__" "Area.__init__" (defArgs (inClass (top 30) 0)) (defBody (inClass (top 30) 0)) (defScope (inClass (top 30) 0)) [] [("whole", .non)] f fd) (mk : Mk K A.Area f) (cAddress_new0 : NewD P w K mg base (MM K Tb pn cs) 5 "Address" 2 ["fixed_row", "fixed_column", "sheet"] g_Address_new0 (s_Address A)) (cneed_address : CalD P w K mg base (MM K Tb pn cs) 2 "need_address" ["value"] (s_need_address A)) (cnormal_columns : CalD P w K mg base (MM K Tb pn cs) 3 "normal_columns" ["first", "last", "whole"] (s_normal_columns A)) (cnormal_rows : CalD P w K mg base (MM K Tb pn cs) 3 "normal_rows" ["first", "last", "whole"] (s_normal_rows A)) (csame_sheets : CalD P w K mg base (MM K Tb pn cs) 2 "same_sheets" ["one", "other"] (s_same_sheets A)) : NewD P w K mg base (MM K Tb pn cs) 7 "Area" 2 ["whole"] g_Area_new1 (s_Area A) := by
  obtain ⟨mv, kb⟩ := FD.kbinds0 (ps := ["self", "first", "last", "whole"]) 3 ["whole"] [] (fun {α : Type} us mv ws => ([0, 1, 2, 3] : List Nat).filterMap ((us ++ (mv ++ ws))[·]?)) (by simp) (by simp) (fun h1 h2 h3 => vals_pick _ (h1.append (h2.append h3)))
    (fun D doc pm an cdv ct us mv ws l1 l2 l3 => match us, l1, mv, l2, ws, l3 with | [_, _, _], _, [], _, [_], _ => rfl)
  refine ⟨A.Area, f, fd, _, _, _, 4, s_Area_init A, mk, T.c_Area, ok_Area_init T F cAddress_new0 cneed_address cnormal_columns cnormal_rows csame_sheets, kb, fun G a vs zs ds es i1 i2 l1 l2 => ?_, new_Area⟩
  have i0 := isl_pick (M := (MM K Tb pn cs)) ([0, 1, 2, 3] : List Nat) (DL.IsL.append (vs := V.ref a :: vs) (ds := D.ref a :: ds) (by simp only [DL.IsL, Is]; exact ⟨trivial, i1⟩) (DL.IsL.append (vs := []) (ds := []) (by simp [DL.IsL, Is]) i2))
  match ds, l1, es, l2, i0 with
  | [d0, d1], _, [e0], _, i0 => exact ⟨i0, rfl⟩
theorem cal__law_in_order (T : Txt P K mg A) (D : DefC K mg "_law_in_order" (top 44) ["_law_pairs"] A.k_law_in_order)  (TB : LamX.TabB base mg A.k_law_in_order A.p_law_in_order) (TM : (A.p_law_in_order, (("_law_in_order" : Str) ++ ".<locals>." ++ "<lambda>")) ∈ Tb) (TU : ∀ p ∈ Tb, p.1 = A.p_law_in_order → p.2 = (("_law_in_order" : Str) ++ ".<locals>." ++ "<lambda>")) : CalD P w K mg base (MM K Tb pn cs) 4 "_law_in_order" ["_law_pairs"] (s__law_in_order A) :=
  CalD.ofC (M := (MM K Tb pn cs)) D sc__law_in_order (t__law_in_order K A cs) (fun f A0 outer s0 H E hr => b__law_in_order T  TB TM TU f A0 outer s0 H E hr) (fun ds n q e hl h => p__law_in_order ds n q e hl h)
theorem cal__law_normal (T : Txt P K mg A) (D : DefT K mg "_law_normal" (top 46) ["_law_area_here"]) (c_law_in_order : CalD P w K mg base (MM K Tb pn cs) 4 "_law_in_order" ["_law_pairs"] (s__law_in_order A)) : CalD P w K mg base (MM K Tb pn cs) 5 "_law_normal" ["_law_area_here"] (s__law_normal A) :=
  CalD.of (M := (MM K Tb pn cs)) D sc__law_normal (t__law_normal K A cs) (fun f cdv A0 outer s0 H E hr => b__law_normal T c_law_in_order f cdv A0 outer s0 H E hr) (fun ds n q e hl h => p__law_normal ds n q e hl h)
theorem cal__law_is (T : Txt P K mg A) (D : DefT K mg "_law_is" (top 42) ["_law_address", "_law_place"])  : CalD P w K mg base (MM K Tb pn cs) 2 "_law_is" ["_law_address", "_law_place"] (s__law_is A) :=
  CalD.of (M := (MM K Tb pn cs)) D sc__law_is (t__law_is K A cs) (fun f cdv A0 outer s0 H E hr => b__law_is T  f cdv A0 outer s0 H E hr) (fun ds n q e hl h => p__law_is T ds n q e hl h)
theorem cal__law_corner (T : Txt P K mg A) (D : DefT K mg "_law_corner" (top 47) ["_law_area_here", "_law_at"])  : CalD P w K mg base (MM K Tb pn cs) 2 "_law_corner" ["_law_area_here", "_law_at"] (s__law_corner A) :=
  CalD.of (M := (MM K Tb pn cs)) D sc__law_corner (t__law_corner K A cs) (fun f cdv A0 outer s0 H E hr => b__law_corner T  f cdv A0 outer s0 H E hr) (fun ds n q e hl h => p__law_corner ds n q e hl h)
theorem cal__law_is_area (T : Txt P K mg A) (D : DefT K mg "_law_is_area" (top 49) ["_law_found", "_law_area_here"]) (c_law_corner : CalD P w K mg base (MM K Tb pn cs) 2 "_law_corner" ["_law_area_here", "_law_at"] (s__law_corner A)) (c_law_is : CalD P w K mg base (MM K Tb pn cs) 2 "_law_is" ["_law_address", "_law_place"] (s__law_is A)) : CalD P w K mg base (MM K Tb pn cs) 3 "_law_is_area" ["_law_found", "_law_area_here"] (s__law_is_area A) :=
  CalD.of (M := (MM K Tb pn cs)) D sc__law_is_area (t__law_is_area K A cs) (fun f cdv A0 outer s0 H E hr => b__law_is_area T c_law_corner c_law_is f cdv A0 outer s0 H E hr) (fun ds n q e hl h => p__law_is_area T ds n q e hl h)
theorem cal__law_made (T : Txt P K mg A) (D : DefT K mg "_law_made" (top 41) ["_law_place"]) (cAddress_new0 : NewD P w K mg base (MM K Tb pn cs) 5 "Address" 2 ["fixed_row", "fixed_column", "sheet"] g_Address_new0 (s_Address A)) : CalD P w K mg base (MM K Tb pn cs) 7 "_law_made" ["_law_place"] (s__law_made A) :=
  CalD.of (M := (MM K Tb pn cs)) D sc__law_made (t__law_made K A cs) (fun f cdv A0 outer s0 H E hr => b__law_made T cAddress_new0 f cdv A0 outer s0 H E hr) (fun ds n q e hl h => p__law_made ds n q e hl h)
theorem cal__law_area_made (T : Txt P K mg A) (D : DefT K mg "_law_area_made" (top 48) ["_law_area_here"]) (cArea_new1 : NewD P w K mg base (MM K Tb pn cs) 7 "Area" 2 ["whole"] g_Area_new1 (s_Area A)) (c_law_corner : CalD P w K mg base (MM K Tb pn cs) 2 "_law_corner" ["_law_area_here", "_law_at"] (s__law_corner A)) (c_law_made : CalD P w K mg base (MM K Tb pn cs) 7 "_law_made" ["_law_place"] (s__law_made A)) : CalD P w K mg base (MM K Tb pn cs) 9 "_law_area_made" ["_law_area_here"] (s__law_area_made A) :=
  CalD.of (M := (MM K Tb pn cs)) D sc__law_area_made (t__law_area_made K A cs) (fun f cdv A0 outer s0 H E hr => b__law_area_made T cArea_new1 c_law_corner c_law_made f cdv A0 outer s0 H E hr) (fun ds n q e hl h => p__law_area_made ds n q e hl h)
theorem ok_Address_eq (T : Txt P K mg A) {f : Addr} {fd : FuncData} (F : Fun K "__eq__" "Address.__eq__" (inClass (top 22) 1) f fd) (csame_sheets : CalD P w K mg base (MM K Tb pn cs) 2 "same_sheets" ["one", "other"] (s_same_sheets A)) : FnOk P w K mg base (L2.CX P w) 3 f fd ["self", "other"] (lift (MM K Tb pn cs) 2 (s_Address_eq A)) :=
  dfn (M := (MM K Tb pn cs)) F sc_Address_eq (t_Address_eq K A cs) (fun cdv A0 outer s0 H E hr => b_Address_eq T csame_sheets f cdv A0 outer s0 H E hr) (fun ds n q e hl h => p_Address_eq T ds n q e hl h)
theorem cal_Address_eq (T : Txt P K mg A) {f : Addr} {fd : FuncData} (F : Fun K "__eq__" "Address.__eq__" (inClass (top 22) 1) f fd) (B : Binds K fd ["self", "other"] []) (C : OB.EqC K A.Address f) (csame_sheets : CalD P w K mg base (MM K Tb pn cs) 2 "same_sheets" ["one", "other"] (s_same_sheets A)) : EqD P w K mg base (MM K Tb pn cs) 3 A.Address (s_Address_eq A) := ⟨f, fd, _, C, ok_Address_eq T F csame_sheets, B⟩
theorem ok_Area_eq (T : Txt P K mg A) {f : Addr} {fd : FuncData} (F : Fun K "__eq__" "Area.__eq__" (inClass (top 30) 1) f fd) (cAddress_eq : EqD P w K mg base (MM K Tb pn cs) 3 A.Address (s_Address_eq A)) : FnOk P w K mg base (L2.CX P w) 5 f fd ["self", "other"] (lift (MM K Tb pn cs) 2 (s_Area_eq A)) :=
  dfn (M := (MM K Tb pn cs)) F sc_Area_eq (t_Area_eq K A cs) (fun cdv A0 outer s0 H E hr => b_Area_eq T cAddress_eq f cdv A0 outer s0 H E hr) (fun ds n q e hl h => p_Area_eq T ds n q e hl h)
theorem cal_Area_eq (T : Txt P K mg A) {f : Addr} {fd : FuncData} (F : Fun K "__eq__" "Area.__eq__" (inClass (top 30) 1) f fd) (B : Binds K fd ["self", "other"] []) (C : OB.EqC K A.Area f) (cAddress_eq : EqD P w K mg base (MM K Tb pn cs) 3 A.Address (s_Address_eq A)) : EqD P w K mg base (MM K Tb pn cs) 5 A.Area (s_Area_eq A) := ⟨f, fd, _, C, ok_Area_eq T F cAddress_eq, B⟩
theorem cal__law_made_right (T : Txt P K mg A) (D : DefC K mg "_law_made_right" (top 55) ["_law_pen_here", "_law_area_here"] A.k_law_made_right) (cAddress_eq : EqD P w K mg base (MM K Tb pn cs) 3 A.Address (s_Address_eq A)) (cArea_eq : EqD P w K mg base (MM K Tb pn cs) 5 A.Area (s_Area_eq A)) (cArea_new1 : NewD P w K mg base (MM K Tb pn cs) 7 "Area" 2 ["whole"] g_Area_new1 (s_Area A)) (c_law_area_made : CalD P w K mg base (MM K Tb pn cs) 9 "_law_area_made" ["_law_area_here"] (s__law_area_made A)) (c_law_is_area : CalD P w K mg base (MM K Tb pn cs) 3 "_law_is_area" ["_law_found", "_law_area_here"] (s__law_is_area A)) (c_law_made : CalD P w K mg base (MM K Tb pn cs) 7 "_law_made" ["_law_place"] (s__law_made A)) (c_law_normal : CalD P w K mg base (MM K Tb pn cs) 5 "_law_normal" ["_law_area_here"] (s__law_normal A)) (c_law_pick : CalD P w K mg base (MM K Tb pn cs) 3 "_law_pick" ["_law_pen_here", "_law_menu"] (s__law_pick A)) (TB : LamX.TabB base mg A.k_law_made_right A.p_law_made_right) (TM : (A.p_law_made_right, (("_law_made_right" : Str) ++ ".<locals>." ++ "<lambda>")) ∈ Tb) (TU : ∀ p ∈ Tb, p.1 = A.p_law_made_right → p.2 = (("_law_made_right" : Str) ++ ".<locals>." ++ "<lambda>")) : CalD P w K mg base (MM K Tb pn cs) 11 "_law_made_right" ["_law_pen_here", "_law_area_here"] (s__law_made_right A) :=
  CalD.ofC (M := (MM K Tb pn cs)) D sc__law_made_right (t__law_made_right K A cs) (fun f A0 outer s0 H E hr => b__law_made_right T cAddress_eq cArea_eq cArea_new1 c_law_area_made c_law_is_area c_law_made c_law_normal c_law_pick TB TM TU f A0 outer s0 H E hr) (fun ds n q e hl h => p__law_made_right T ds n q e hl h)
theorem cal_need_area (T : Txt P K mg A) (D : DefT K mg "need_area" (top 31) ["value"])  : CalD P w K mg base (MM K Tb pn cs) 2 "need_area" ["value"] (s_need_area A) :=
  CalD.of (M := (MM K Tb pn cs)) D sc_need_area (t_need_area K A cs) (fun f cdv A0 outer s0 H E hr => b_need_area T  f cdv A0 outer s0 H E hr) (fun ds n q e hl h => p_need_area T ds n q e hl h)
theorem cal_plain_area (T : Txt P K mg A) (D : DefT K mg "plain_area" (top 26) ["top", "left", "bottom", "right", "sheet", "whole"]) (cAddress_new2 : NewD P w K mg base (MM K Tb pn cs) 5 "Address" 2 ["sheet"] g_Address_new2 (s_Address A)) (cArea_new1 : NewD P w K mg base (MM K Tb pn cs) 7 "Area" 2 ["whole"] g_Area_new1 (s_Area A)) : CalD P w K mg base (MM K Tb pn cs) 9 "plain_area" ["top", "left", "bottom", "right", "sheet", "whole"] (s_plain_area A) :=
  CalD.of (M := (MM K Tb pn cs)) D sc_plain_area (t_plain_area K A cs) (fun f cdv A0 outer s0 H E hr => b_plain_area T cAddress_new2 cArea_new1 f cdv A0 outer s0 H E hr) (fun ds n q e hl h => p_plain_area ds n q e hl h)
theorem cal_may_meet (T : Txt P K mg A) (D : DefT K mg "may_meet" (top 32) ["one", "other"]) (csame_sheets : CalD P w K mg base (MM K Tb pn cs) 2 "same_sheets" ["one", "other"] (s_same_sheets A)) : CalD P w K mg base (MM K Tb pn cs) 3 "may_meet" ["one", "other"] (s_may_meet A) :=
  CalD.of (M := (MM K Tb pn cs)) D sc_may_meet (t_may_meet K A cs) (fun f cdv A0 outer s0 H E hr => b_may_meet T csame_sheets f cdv A0 outer s0 H E hr) (fun ds n q e hl h => p_may_meet ds n q e hl h)
theorem cal_common_area (T : Txt P K mg A) (D : DefT K mg "common_area" (top 33) ["one", "other"]) (cmay_meet : CalD P w K mg base (MM K Tb pn cs) 3 "may_meet" ["one", "other"] (s_may_meet A)) (cplain_area : CalD P w K mg base (MM K Tb pn cs) 9 "plain_area" ["top", "left", "bottom", "right", "sheet", "whole"] (s_plain_area A)) : CalD P w K mg base (MM K Tb pn cs) 10 "common_area" ["one", "other"] (s_common_area A) :=
  CalD.of (M := (MM K Tb pn cs)) D sc_common_area (t_common_area K A cs) (fun f cdv A0 outer s0 H E hr => b_common_area T cmay_meet cplain_area f cdv A0 outer s0 H E hr) (fun ds n q e hl h => p_common_area ds n q e hl h)
theorem ok_Area_common (T : Txt P K mg A) {f : Addr} {fd : FuncData} (F : Fun K "common" "Area.common" (inClass (top 30) 3) f fd) (ccommon_area : CalD P w K mg base (MM K Tb pn cs) 10 "common_area" ["one", "other"] (s_common_area A)) (cneed_area : CalD P w K mg base (MM K Tb pn cs) 2 "need_area" ["value"] (s_need_area A)) : FnOk P w K mg base (L2.CX P w) 11 f fd ["self", "other"] (lift (MM K Tb pn cs) 2 (s_Area_common A)) :=
  dfn (M := (MM K Tb pn cs)) F sc_Area_common (t_Area_common K A cs) (fun cdv A0 outer s0 H E hr => b_Area_common T ccommon_area cneed_area f cdv A0 outer s0 H E hr) (fun ds n q e hl h => p_Area_common ds n q e hl h)
theorem cal_Area_common (T : Txt P K mg A) {f : Addr} {fd : FuncData} (F : Fun K "common" "Area.common" (inClass (top 30) 3) f fd) (B : Binds K fd ["self", "other"] []) (C : Cls K A.Area) (Mt : Meth K A.Area "common" f) (ccommon_area : CalD P w K mg base (MM K Tb pn cs) 10 "common_area" ["one", "other"] (s_common_area A)) (cneed_area : CalD P w K mg base (MM K Tb pn cs) 2 "need_area" ["value"] (s_need_area A)) : MetD P w K mg base (MM K Tb pn cs) 11 A.Area "common" ["self", "other"] (s_Area_common A) := ⟨f, fd, C, Mt, ok_Area_common T F ccommon_area cneed_area, B⟩
theorem cal_part_of (T : Txt P K mg A) (D : DefT K mg "part_of" (top 34) ["area", "top", "left", "bottom", "right"]) (cplain_area : CalD P w K mg base (MM K Tb pn cs) 9 "plain_area" ["top", "left", "bottom", "right", "sheet", "whole"] (s_plain_area A)) : CalD P w K mg base (MM K Tb pn cs) 10 "part_of" ["area", "top", "left", "bottom", "right"] (s_part_of A) :=
  CalD.of (M := (MM K Tb pn cs)) D sc_part_of (t_part_of K A cs) (fun f cdv A0 outer s0 H E hr => b_part_of T cplain_area f cdv A0 outer s0 H E hr) (fun ds n q e hl h => p_part_of ds n q e hl h)
theorem cal_parts_without (T : Txt P K mg A) (D : DefT K mg "parts_without" (top 35) ["area", "hole"]) (cpart_of : CalD P w K mg base (MM K Tb pn cs) 10 "part_of" ["area", "top", "left", "bottom", "right"] (s_part_of A)) : CalD P w K mg base (MM K Tb pn cs) 11 "parts_without" ["area", "hole"] (s_parts_without A) :=
  CalD.of (M := (MM K Tb pn cs)) D sc_parts_without (t_parts_without K A cs) (fun f cdv A0 outer s0 H E hr => b_parts_without T cpart_of f cdv A0 outer s0 H E hr) (fun ds n q e hl h => p_parts_without ds n q e hl h)
theorem ok_Area_without (T : Txt P K mg A) {f : Addr} {fd : FuncData} (F : Fun K "without" "Area.without" (inClass (top 30) 4) f fd) (ccommon_area : CalD P w K mg base (MM K Tb pn cs) 10 "common_area" ["one", "other"] (s_common_area A)) (cneed_area : CalD P w K mg base (MM K Tb pn cs) 2 "need_area" ["value"] (s_need_area A)) (cparts_without : CalD P w K mg base (MM K Tb pn cs) 11 "parts_without" ["area", "hole"] (s_parts_without A)) : FnOk P w K mg base (L2.CX P w) 12 f fd ["self", "other"] (lift (MM K Tb pn cs) 2 (s_Area_without A)) :=
  dfn (M := (MM K Tb pn cs)) F sc_Area_without (t_Area_without K A cs) (fun cdv A0 outer s0 H E hr => b_Area_without T ccommon_area cneed_area cparts_without f cdv A0 outer s0 H E hr) (fun ds n q e hl h => p_Area_without T ds n q e hl h)
theorem cal_Area_without (T : Txt P K mg A) {f : Addr} {fd : FuncData} (F : Fun K "without" "Area.without" (inClass (top 30) 4) f fd) (B : Binds K fd ["self", "other"] []) (C : Cls K A.Area) (Mt : Meth K A.Area "without" f) (ccommon_area : CalD P w K mg base (MM K Tb pn cs) 10 "common_area" ["one", "other"] (s_common_area A)) (cneed_area : CalD P w K mg base (MM K Tb pn cs) 2 "need_area" ["value"] (s_need_area A)) (cparts_without : CalD P w K mg base (MM K Tb pn cs) 11 "parts_without" ["area", "hole"] (s_parts_without A)) : MetD P w K mg base (MM K Tb pn cs) 12 A.Area "without" ["self", "other"] (s_Area_without A) := ⟨f, fd, C, Mt, ok_Area_without T F ccommon_area cneed_area cparts_without, B⟩
theorem cal__law_bare (T : Txt P K mg A) (D : DefT K mg "_law_bare" (top 52) ["_law_top", "_law_left", "_law_bottom", "_law_right", "_law_whole", "_law_sheet"])  : CalD P w K mg base (MM K Tb pn cs) 2 "_law_bare" ["_law_top", "_law_left", "_law_bottom", "_law_right", "_law_whole", "_law_sheet"] (s__law_bare A) :=
  CalD.of (M := (MM K Tb pn cs)) D sc__law_bare (t__law_bare K A cs) (fun f cdv A0 outer s0 H E hr => b__law_bare T  f cdv A0 outer s0 H E hr) (fun ds n q e hl h => p__law_bare ds n q e hl h)
theorem cal__law_meet (T : Txt P K mg A) (D : DefT K mg "_law_meet" (top 50) ["_law_one", "_law_other"])  : CalD P w K mg base (MM K Tb pn cs) 2 "_law_meet" ["_law_one", "_law_other"] (s__law_meet A) :=
  CalD.of (M := (MM K Tb pn cs)) D sc__law_meet (t__law_meet K A cs) (fun f cdv A0 outer s0 H E hr => b__law_meet T  f cdv A0 outer s0 H E hr) (fun ds n q e hl h => p__law_meet ds n q e hl h)
theorem cal__law_shared (T : Txt P K mg A) (D : DefT K mg "_law_shared" (top 53) ["_law_one", "_law_other"]) (c_law_bare : CalD P w K mg base (MM K Tb pn cs) 2 "_law_bare" ["_law_top", "_law_left", "_law_bottom", "_law_right", "_law_whole", "_law_sheet"] (s__law_bare A)) (c_law_meet : CalD P w K mg base (MM K Tb pn cs) 2 "_law_meet" ["_law_one", "_law_other"] (s__law_meet A)) : CalD P w K mg base (MM K Tb pn cs) 3 "_law_shared" ["_law_one", "_law_other"] (s__law_shared A) :=
  CalD.of (M := (MM K Tb pn cs)) D sc__law_shared (t__law_shared K A cs) (fun f cdv A0 outer s0 H E hr => b__law_shared T c_law_bare c_law_meet f cdv A0 outer s0 H E hr) (fun ds n q e hl h => p__law_shared ds n q e hl h)
theorem cal__law_left_over (T : Txt P K mg A) (D : DefT K mg "_law_left_over" (top 54) ["_law_one", "_law_hole"]) (c_law_bare : CalD P w K mg base (MM K Tb pn cs) 2 "_law_bare" ["_law_top", "_law_left", "_law_bottom", "_law_right", "_law_whole", "_law_sheet"] (s__law_bare A)) : CalD P w K mg base (MM K Tb pn cs) 3 "_law_left_over" ["_law_one", "_law_hole"] (s__law_left_over A) :=
  CalD.of (M := (MM K Tb pn cs)) D sc__law_left_over (t__law_left_over K A cs) (fun f cdv A0 outer s0 H E hr => b__law_left_over T c_law_bare f cdv A0 outer s0 H E hr) (fun ds n q e hl h => p__law_left_over ds n q e hl h)
theorem cal__law_alike (T : Txt P K mg A) (D : DefT K mg "_law_alike" (top 51) ["_law_one", "_law_other"])  : CalD P w K mg base (MM K Tb pn cs) 2 "_law_alike" ["_law_one", "_law_other"] (s__law_alike A) :=
  CalD.of (M := (MM K Tb pn cs)) D sc__law_alike (t__law_alike K A cs) (fun f cdv A0 outer s0 H E hr => b__law_alike T  f cdv A0 outer s0 H E hr) (fun ds n q e hl h => p__law_alike ds n q e hl h)
theorem cal__law_pair_right (T : Txt P K mg A) (D : DefC K mg "_law_pair_right" (top 56) ["_law_pen_here", "_law_one", "_law_other"] A.k_law_pair_right) (cArea_common : MetD P w K mg base (MM K Tb pn cs) 11 A.Area "common" ["self", "other"] (s_Area_common A)) (cArea_eq : EqD P w K mg base (MM K Tb pn cs) 5 A.Area (s_Area_eq A)) (cArea_without : MetD P w K mg base (MM K Tb pn cs) 12 A.Area "without" ["self", "other"] (s_Area_without A)) (c_law_alike : CalD P w K mg base (MM K Tb pn cs) 2 "_law_alike" ["_law_one", "_law_other"] (s__law_alike A)) (c_law_area_made : CalD P w K mg base (MM K Tb pn cs) 9 "_law_area_made" ["_law_area_here"] (s__law_area_made A)) (c_law_is_area : CalD P w K mg base (MM K Tb pn cs) 3 "_law_is_area" ["_law_found", "_law_area_here"] (s__law_is_area A)) (c_law_left_over : CalD P w K mg base (MM K Tb pn cs) 3 "_law_left_over" ["_law_one", "_law_hole"] (s__law_left_over A)) (c_law_normal : CalD P w K mg base (MM K Tb pn cs) 5 "_law_normal" ["_law_area_here"] (s__law_normal A)) (c_law_shared : CalD P w K mg base (MM K Tb pn cs) 3 "_law_shared" ["_law_one", "_law_other"] (s__law_shared A)) (TB : LamX.TabB base mg A.k_law_pair_right A.p_law_pair_right) (TM : (A.p_law_pair_right, (("_law_pair_right" : Str) ++ ".<locals>." ++ "<lambda>")) ∈ Tb) (TU : ∀ p ∈ Tb, p.1 = A.p_law_pair_right → p.2 = (("_law_pair_right" : Str) ++ ".<locals>." ++ "<lambda>")) : CalD P w K mg base (MM K Tb pn cs) 14 "_law_pair_right" ["_law_pen_here", "_law_one", "_law_other"] (s__law_pair_right A) :=
  CalD.ofC (M := (MM K Tb pn cs)) D sc__law_pair_right (t__law_pair_right K A cs) (fun f A0 outer s0 H E hr => b__law_pair_right T cArea_common cArea_eq cArea_without c_law_alike c_law_area_made c_law_is_area c_law_left_over c_law_normal c_law_shared TB TM TU f A0 outer s0 H E hr) (fun ds n q e hl h => p__law_pair_right T ds n q e hl h)
theorem ok_Area_has (T : Txt P K mg A) {f : Addr} {fd : FuncData} (F : Fun K "has" "Area.has" (inClass (top 30) 2) f fd) (cmay_meet : CalD P w K mg base (MM K Tb pn cs) 3 "may_meet" ["one", "other"] (s_may_meet A)) (cneed_address : CalD P w K mg base (MM K Tb pn cs) 2 "need_address" ["value"] (s_need_address A)) : FnOk P w K mg base (L2.CX P w) 4 f fd ["self", "address"] (lift (MM K Tb pn cs) 2 (s_Area_has A)) :=
  dfn (M := (MM K Tb pn cs)) F sc_Area_has (t_Area_has K A cs) (fun cdv A0 outer s0 H E hr => b_Area_has T cmay_meet cneed_address f cdv A0 outer s0 H E hr) (fun ds n q e hl h => p_Area_has ds n q e hl h)
theorem cal_Area_has (T : Txt P K mg A) {f : Addr} {fd : FuncData} (F : Fun K "has" "Area.has" (inClass (top 30) 2) f fd) (B : Binds K fd ["self", "address"] []) (C : Cls K A.Area) (Mt : Meth K A.Area "has" f) (cmay_meet : CalD P w K mg base (MM K Tb pn cs) 3 "may_meet" ["one", "other"] (s_may_meet A)) (cneed_address : CalD P w K mg base (MM K Tb pn cs) 2 "need_address" ["value"] (s_need_address A)) : MetD P w K mg base (MM K Tb pn cs) 4 A.Area "has" ["self", "address"] (s_Area_has A) := ⟨f, fd, C, Mt, ok_Area_has T F cmay_meet cneed_address, B⟩
theorem cal__law_has_right (T : Txt P K mg A) (D : DefT K mg "_law_has_right" (top 57) ["_law_pen_here", "_law_area_here", "_law_base"]) (cArea_has : MetD P w K mg base (MM K Tb pn cs) 4 A.Area "has" ["self", "address"] (s_Area_has A)) (c_law_area_made : CalD P w K mg base (MM K Tb pn cs) 9 "_law_area_made" ["_law_area_here"] (s__law_area_made A)) (c_law_draw : CalD P w K mg base (MM K Tb pn cs) 2 "_law_draw" ["_law_pen_here", "_law_span"] (s__law_draw A)) (c_law_made : CalD P w K mg base (MM K Tb pn cs) 7 "_law_made" ["_law_place"] (s__law_made A)) (c_law_meet : CalD P w K mg base (MM K Tb pn cs) 2 "_law_meet" ["_law_one", "_law_other"] (s__law_meet A)) (c_law_normal : CalD P w K mg base (MM K Tb pn cs) 5 "_law_normal" ["_law_area_here"] (s__law_normal A)) (c_law_pick : CalD P w K mg base (MM K Tb pn cs) 3 "_law_pick" ["_law_pen_here", "_law_menu"] (s__law_pick A)) : CalD P w K mg base (MM K Tb pn cs) 10 "_law_has_right" ["_law_pen_here", "_law_area_here", "_law_base"] (s__law_has_right A) :=
  CalD.of (M := (MM K Tb pn cs)) D sc__law_has_right (t__law_has_right K A cs) (fun f cdv A0 outer s0 H E hr => b__law_has_right T cArea_has c_law_area_made c_law_draw c_law_made c_law_meet c_law_normal c_law_pick f cdv A0 outer s0 H E hr) (fun ds n q e hl h => p__law_has_right ds n q e hl h)
theorem ok_Area_cells (T : Txt P K mg A) {f : Addr} {fd : FuncData} (F : Fun K "cells" "Area.cells" (inClass (top 30) 5) f fd) (cAddress_new2 : NewD P w K mg base (MM K Tb pn cs) 5 "Address" 2 ["sheet"] g_Address_new2 (s_Address A)) : FnOk P w K mg base (L2.CX P w) 7 f fd ["self"] (lift (MM K Tb pn cs) 1 (s_Area_cells A)) :=
  dfn (M := (MM K Tb pn cs)) F sc_Area_cells (t_Area_cells K A cs) (fun cdv A0 outer s0 H E hr => b_Area_cells T cAddress_new2 f cdv A0 outer s0 H E hr) (fun ds n q e hl h => p_Area_cells ds n q e hl h)
theorem cal_Area_cells (T : Txt P K mg A) {f : Addr} {fd : FuncData} (F : Fun K "cells" "Area.cells" (inClass (top 30) 5) f fd) (B : Binds K fd ["self"] []) (C : Cls K A.Area) (Mt : Meth K A.Area "cells" f) (cAddress_new2 : NewD P w K mg base (MM K Tb pn cs) 5 "Address" 2 ["sheet"] g_Address_new2 (s_Address A)) : MetD P w K mg base (MM K Tb pn cs) 7 A.Area "cells" ["self"] (s_Area_cells A) := ⟨f, fd, C, Mt, ok_Area_cells T F cAddress_new2, B⟩
theorem cal__law_cells_right (T : Txt P K mg A) (D : DefC K mg "_law_cells_right" (top 58) ["_law_pen_here", "_law_area_here"] A.k_law_cells_right) (cArea_cells : MetD P w K mg base (MM K Tb pn cs) 7 A.Area "cells" ["self"] (s_Area_cells A)) (c_law_area_made : CalD P w K mg base (MM K Tb pn cs) 9 "_law_area_made" ["_law_area_here"] (s__law_area_made A)) (c_law_draw : CalD P w K mg base (MM K Tb pn cs) 2 "_law_draw" ["_law_pen_here", "_law_span"] (s__law_draw A)) (c_law_is : CalD P w K mg base (MM K Tb pn cs) 2 "_law_is" ["_law_address", "_law_place"] (s__law_is A)) (c_law_normal : CalD P w K mg base (MM K Tb pn cs) 5 "_law_normal" ["_law_area_here"] (s__law_normal A)) (TB : LamX.TabB base mg A.k_law_cells_right A.p_law_cells_right) (TM : (A.p_law_cells_right, (("_law_cells_right" : Str) ++ ".<locals>." ++ "<lambda>")) ∈ Tb) (TU : ∀ p ∈ Tb, p.1 = A.p_law_cells_right → p.2 = (("_law_cells_right" : Str) ++ ".<locals>." ++ "<lambda>")) : CalD P w K mg base (MM K Tb pn cs) 10 "_law_cells_right" ["_law_pen_here", "_law_area_here"] (s__law_cells_right A) :=
  CalD.ofC (M := (MM K Tb pn cs)) D sc__law_cells_right (t__law_cells_right K A cs) (fun f A0 outer s0 H E hr => b__law_cells_right T cArea_cells c_law_area_made c_law_draw c_law_is c_law_normal TB TM TU f A0 outer s0 H E hr) (fun ds n q e hl h => p__law_cells_right T ds n q e hl h)
theorem sc__law_pen : FnScope ["_law_script"] ["_law_script"] (defScope (top 37)) := ⟨rfl, rfl, rfl, by decide +kernel, rfl, by decide +kernel, by decide +kernel⟩
theorem ok_pen {f : Addr} {fd : FuncData} (F : Fun K "_law_pen" "_law_pen" (top 37) f fd) (hl : mg "list" = none) : FnOk P w K mg base (L2.CX P w) 2 f fd ["_law_script"] (spPen K "at" "left") := by
  refine F.okX sc__law_pen (fun vs H Q E h => ?_) (fun cdv A outer s H vs Q E hr h => ⟨tPen K "at" "left", ?_, pen_pure (by decide) (by decide) (by decide) vs H Q E h⟩)
  · obtain ⟨a, ns, rfl, _⟩ := h
    rfl
  · exact pss_one (ps_ret (pe_disp (pps_cons pe_str (pe_callTy call_list_of (by rfl) hl PyProof.Rows.boot_list (pa_cons (pe_slice sl_list (pv 0) po_none (po_some pe_int)) pa_nil)) (pps_cons pe_str pe_int (pps_cons pe_str pe_int pps_nil))) rfl rfl (by decide) (by decide)))
theorem ok_law {f fp : Addr} {fd fdp : FuncData} (T : Txt P K mg A) (F : Fun K "law" "law" (top 59) f fd) (Fp : Fun K "_law_pen" "_law_pen" (top 37) fp fdp) (bp : Binds K fdp ["_law_script"] []) (gp : mg "_law_pen" = some (.ref fp)) (kp : PySem.W.keepIn K (.ref fp) = true) (hl : mg "list" = none) (c_law_area : ∀ pn cs, CalD P w K mg base (MM K Tb pn cs) 4 "_law_area" ["_law_pen_here", "_law_base", "_law_sheets"] (s__law_area A)) (c_law_cells_right : ∀ pn cs, CalD P w K mg base (MM K Tb pn cs) 10 "_law_cells_right" ["_law_pen_here", "_law_area_here"] (s__law_cells_right A)) (c_law_draw : ∀ pn cs, CalD P w K mg base (MM K Tb pn cs) 2 "_law_draw" ["_law_pen_here", "_law_span"] (s__law_draw A)) (c_law_has_right : ∀ pn cs, CalD P w K mg base (MM K Tb pn cs) 10 "_law_has_right" ["_law_pen_here", "_law_area_here", "_law_base"] (s__law_has_right A)) (c_law_made_right : ∀ pn cs, CalD P w K mg base (MM K Tb pn cs) 11 "_law_made_right" ["_law_pen_here", "_law_area_here"] (s__law_made_right A)) (c_law_pair_right : ∀ pn cs, CalD P w K mg base (MM K Tb pn cs) 14 "_law_pair_right" ["_law_pen_here", "_law_one", "_law_other"] (s__law_pair_right A)) (c_law_pick : ∀ pn cs, CalD P w K mg base (MM K Tb pn cs) 3 "_law_pick" ["_law_pen_here", "_law_menu"] (s__law_pick A)) :
    FnOk P w K mg base (L2.CX P w) 15 f fd ["_law_script"] (spLaw K Tb) := by
  refine F.okX sc_law (fun vs H Q E h => ?_) (fun cdv A0 outer s0 H vs Q E hr h => ⟨_, ?_, law_pure (K := K) (T := Tb) (ka := "at") (kl := "left") (W := fun cls d _ H => E cls d H) (WS := WE fun cls d _ H => E cls d H) (N := N_law) (m := 5) (t := fun cs => t_law K A cs) rfl (fun cs _ => p_law T cs) vs H Q E h⟩)
  · obtain ⟨a, ns, rfl, _⟩ := h
    rfl
  · have tk : Takes (XC P w K mg base N_law "law" (top 59) f cdv A0 outer s0 H E) (fun cls d _ H => E cls d H) := takes_of rfl rfl rfl rfl
    have h2 : PSs (XC P w K mg base N_law "law" (top 59) f cdv A0 outer s0 H E) ((defBody (top 59)).drop 1) (tLaw K Tb "at" "left" (fun cls d _ H => E cls d H) fun cs => t_law K A cs) := pss_law fun pn cs => b_law T (c_law_area pn cs) (c_law_cells_right pn cs) (c_law_draw pn cs) (c_law_has_right pn cs) (c_law_made_right pn cs) (c_law_pair_right pn cs) (c_law_pick pn cs) f cdv A0 outer s0 H E hr
    exact pss_cons (ps_set (i := 1) sc_law.nd rfl (Or.inl rfl) (pe_callSD (dvs := []) (ds := []) (ok_pen Fp hl) (hr.mono (by decide)) rfl gp kp bp .nil (fun σ => passAt tk σ) (pa_cons (pv 0) pa_nil))) h2
end
theorem fin (l : PySem.W.OpenLaw) {w : World} {K : PySem.W.Frag} {h : Heap} {mg : Str → Option Value} {fa : Addr} (X : K.In h) (G : h.Ns mainGlobals mg) (hfa : mg "law" = some (.ref fa))
    {v_MOST_CELLS : Int} {tk_MOST_CELLS : Tok} {v_MOST_COLUMNS : Int} {tk_MOST_COLUMNS : Tok} {v_MOST_ROWS : Int} {tk_MOST_ROWS : Tok} {C_Address : Addr} {C_Area : Addr} {C_BadValue : Addr} {C_NotAName : Addr} {C_OffGrid : Addr} {C_TooMany : Addr} {nm_BadValue q_BadValue : Str} {N_BadValue : Addr} {bs_BadValue bm_BadValue sub_BadValue : List Value} {sn_BadValue : List Str} {ab_BadValue : Bool} {col_BadValue : Option Bool} {dd_BadValue : Option Addr} {m0_BadValue m1_BadValue m2_BadValue m3_BadValue m5_BadValue : Option Value} {fI_BadValue : Addr} {oc_BadValue dc_BadValue pm_BadValue ct_BadValue : Value} {od_BadValue an_BadValue : Option Addr} {cd_BadValue cc_BadValue : Addr} {sl_BadValue : Array (Option Value)} {ccl_BadValue : Value} {cdd_BadValue : Option Addr} {vs_BadValue : Array Value} {ccs_BadValue : Array (Option Value)} {fl_BadValue : Str} {tf_BadValue : Tok} {cl_BadValue : Value} {cld_BadValue : Option Addr} {csl_BadValue : Array (Option Value)} {nm_OffGrid q_OffGrid : Str} {N_OffGrid : Addr} {bs_OffGrid bm_OffGrid sub_OffGrid : List Value} {sn_OffGrid : List Str} {ab_OffGrid : Bool} {col_OffGrid : Option Bool} {dd_OffGrid : Option Addr} {m0_OffGrid m1_OffGrid m2_OffGrid m3_OffGrid m5_OffGrid : Option Value} {fI_OffGrid : Addr} {oc_OffGrid dc_OffGrid pm_OffGrid ct_OffGrid : Value} {od_OffGrid an_OffGrid : Option Addr} {cd_OffGrid cc_OffGrid : Addr} {sl_OffGrid : Array (Option Value)} {ccl_OffGrid : Value} {cdd_OffGrid : Option Addr} {vs_OffGrid : Array Value} {ccs_OffGrid : Array (Option Value)} {fl_OffGrid : Str} {tf_OffGrid : Tok} {cl_OffGrid : Value} {cld_OffGrid : Option Addr} {csl_OffGrid : Array (Option Value)} {nm_TooMany q_TooMany : Str} {N_TooMany : Addr} {bs_TooMany bm_TooMany sub_TooMany : List Value} {sn_TooMany : List Str} {ab_TooMany : Bool} {col_TooMany : Option Bool} {dd_TooMany : Option Addr} {m0_TooMany m1_TooMany m2_TooMany m3_TooMany m5_TooMany : Option Value} {fI_TooMany : Addr} {oc_TooMany dc_TooMany pm_TooMany ct_TooMany : Value} {od_TooMany an_TooMany : Option Addr} {cd_TooMany cc_TooMany : Addr} {sl_TooMany : Array (Option Value)} {ccl_TooMany : Value} {cdd_TooMany : Option Addr} {vs_TooMany : Array Value} {ccs_TooMany : Array (Option Value)} {fl_TooMany : Str} {tf_TooMany : Tok} {cl_TooMany : Value} {cld_TooMany : Option Addr} {csl_TooMany : Array (Option Value)} {f_Address_init : Addr} {ocAddress_init dcAddress_init pmAddress_init cvAddress_init ctAddress_init : Value} {odAddress_init anAddress_init : Option Addr} {slAddress_init : Array (Option Value)} {D_Address_init : Addr} {f_Area_init : Addr} {ocArea_init dcArea_init pmArea_init cvArea_init ctArea_init : Value} {odArea_init anArea_init : Option Addr} {slArea_init : Array (Option Value)} {D_Area_init : Addr} {f_Address_eq : Addr} {ocAddress_eq dcAddress_eq pmAddress_eq cvAddress_eq ctAddress_eq : Value} {odAddress_eq anAddress_eq : Option Addr} {slAddress_eq : Array (Option Value)} {kVAddress_eq : Value} {f_Area_eq : Addr} {ocArea_eq dcArea_eq pmArea_eq cvArea_eq ctArea_eq : Value} {odArea_eq anArea_eq : Option Addr} {slArea_eq : Array (Option Value)} {kVArea_eq : Value} {f_Area_common : Addr} {ocArea_common dcArea_common pmArea_common cvArea_common ctArea_common : Value} {odArea_common anArea_common : Option Addr} {slArea_common : Array (Option Value)} {kVArea_common : Value} {f_Area_without : Addr} {ocArea_without dcArea_without pmArea_without cvArea_without ctArea_without : Value} {odArea_without anArea_without : Option Addr} {slArea_without : Array (Option Value)} {kVArea_without : Value} {f_Area_has : Addr} {ocArea_has dcArea_has pmArea_has cvArea_has ctArea_has : Value} {odArea_has anArea_has : Option Addr} {slArea_has : Array (Option Value)} {kVArea_has : Value} {f_Area_cells : Addr} {ocArea_cells dcArea_cells pmArea_cells cvArea_cells ctArea_cells : Value} {odArea_cells anArea_cells : Option Addr} {slArea_cells : Array (Option Value)} {kVArea_cells : Value} {f__law_draw : Addr} {oc_law_draw kV_law_draw dc_law_draw pm_law_draw cv_law_draw ct_law_draw : Value} {od_law_draw an_law_draw : Option Addr} {sl_law_draw : Array (Option Value)} {f__law_pick : Addr} {oc_law_pick kV_law_pick dc_law_pick pm_law_pick cv_law_pick ct_law_pick : Value} {od_law_pick an_law_pick : Option Addr} {sl_law_pick : Array (Option Value)} {f__law_corners : Addr} {oc_law_corners kV_law_corners dc_law_corners pm_law_corners cv_law_corners ct_law_corners : Value} {od_law_corners an_law_corners : Option Addr} {sl_law_corners : Array (Option Value)} {f__law_area : Addr} {oc_law_area kV_law_area dc_law_area pm_law_area cv_law_area ct_law_area : Value} {od_law_area an_law_area : Option Addr} {sl_law_area : Array (Option Value)} {f_is_integer : Addr} {ocis_integer kVis_integer dcis_integer pmis_integer cvis_integer ctis_integer : Value} {odis_integer anis_integer : Option Addr} {slis_integer : Array (Option Value)} {f_need_integer : Addr} {ocneed_integer kVneed_integer dcneed_integer pmneed_integer cvneed_integer ctneed_integer : Value} {odneed_integer anneed_integer : Option Addr} {slneed_integer : Array (Option Value)} {f_need_truth : Addr} {ocneed_truth kVneed_truth dcneed_truth pmneed_truth cvneed_truth ctneed_truth : Value} {odneed_truth anneed_truth : Option Addr} {slneed_truth : Array (Option Value)} {f_is_letter : Addr} {ocis_letter kVis_letter dcis_letter pmis_letter cvis_letter ctis_letter : Value} {odis_letter anis_letter : Option Addr} {slis_letter : Array (Option Value)} {f_is_digit : Addr} {ocis_digit kVis_digit dcis_digit pmis_digit cvis_digit ctis_digit : Value} {odis_digit anis_digit : Option Addr} {slis_digit : Array (Option Value)} {f_is_sheet_word : Addr} {ocis_sheet_word kVis_sheet_word dcis_sheet_word pmis_sheet_word cvis_sheet_word ctis_sheet_word : Value} {odis_sheet_word anis_sheet_word : Option Addr} {slis_sheet_word : Array (Option Value)} {f_need_sheet_word : Addr} {ocneed_sheet_word kVneed_sheet_word dcneed_sheet_word pmneed_sheet_word cvneed_sheet_word ctneed_sheet_word : Value} {odneed_sheet_word anneed_sheet_word : Option Addr} {slneed_sheet_word : Array (Option Value)} {f_is_on_grid : Addr} {ocis_on_grid kVis_on_grid dcis_on_grid pmis_on_grid cvis_on_grid ctis_on_grid : Value} {odis_on_grid anis_on_grid : Option Addr} {slis_on_grid : Array (Option Value)} {f_need_address : Addr} {ocneed_address kVneed_address dcneed_address pmneed_address cvneed_address ctneed_address : Value} {odneed_address anneed_address : Option Addr} {slneed_address : Array (Option Value)} {f_in_order : Addr} {ocin_order kVin_order dcin_order pmin_order cvin_order ctin_order : Value} {odin_order anin_order : Option Addr} {slin_order : Array (Option Value)} {f_normal_rows : Addr} {ocnormal_rows kVnormal_rows dcnormal_rows pmnormal_rows cvnormal_rows ctnormal_rows : Value} {odnormal_rows annormal_rows : Option Addr} {slnormal_rows : Array (Option Value)} {f_normal_columns : Addr} {ocnormal_columns kVnormal_columns dcnormal_columns pmnormal_columns cvnormal_columns ctnormal_columns : Value} {odnormal_columns annormal_columns : Option Addr} {slnormal_columns : Array (Option Value)} {f_same_sheets : Addr} {ocsame_sheets kVsame_sheets dcsame_sheets pmsame_sheets cvsame_sheets ctsame_sheets : Value} {odsame_sheets ansame_sheets : Option Addr} {slsame_sheets : Array (Option Value)} {f__law_in_order : Addr} {oc_law_in_order kV_law_in_order dc_law_in_order pm_law_in_order ct_law_in_order : Value} {od_law_in_order an_law_in_order : Option Addr} {sl_law_in_order : Array (Option Value)} {c__law_in_order : Addr} {f__law_normal : Addr} {oc_law_normal kV_law_normal dc_law_normal pm_law_normal cv_law_normal ct_law_normal : Value} {od_law_normal an_law_normal : Option Addr} {sl_law_normal : Array (Option Value)} {f__law_is : Addr} {oc_law_is kV_law_is dc_law_is pm_law_is cv_law_is ct_law_is : Value} {od_law_is an_law_is : Option Addr} {sl_law_is : Array (Option Value)} {f__law_corner : Addr} {oc_law_corner kV_law_corner dc_law_corner pm_law_corner cv_law_corner ct_law_corner : Value} {od_law_corner an_law_corner : Option Addr} {sl_law_corner : Array (Option Value)} {f__law_is_area : Addr} {oc_law_is_area kV_law_is_area dc_law_is_area pm_law_is_area cv_law_is_area ct_law_is_area : Value} {od_law_is_area an_law_is_area : Option Addr} {sl_law_is_area : Array (Option Value)} {f__law_made : Addr} {oc_law_made kV_law_made dc_law_made pm_law_made cv_law_made ct_law_made : Value} {od_law_made an_law_made : Option Addr} {sl_law_made : Array (Option Value)} {f__law_told : Addr} {oc_law_told kV_law_told dc_law_told pm_law_told ct_law_told : Value} {od_law_told an_law_told : Option Addr} {sl_law_told : Array (Option Value)} {c__law_told : Addr} {f__law_area_made : Addr} {oc_law_area_made kV_law_area_made dc_law_area_made pm_law_area_made cv_law_area_made ct_law_area_made : Value} {od_law_area_made an_law_area_made : Option Addr} {sl_law_area_made : Array (Option Value)} {f__law_made_right : Addr} {oc_law_made_right kV_law_made_right dc_law_made_right pm_law_made_right ct_law_made_right : Value} {od_law_made_right an_law_made_right : Option Addr} {sl_law_made_right : Array (Option Value)} {c__law_made_right : Addr} {f_need_area : Addr} {ocneed_area kVneed_area dcneed_area pmneed_area cvneed_area ctneed_area : Value} {odneed_area anneed_area : Option Addr} {slneed_area : Array (Option Value)} {f_plain_area : Addr} {ocplain_area kVplain_area dcplain_area pmplain_area cvplain_area ctplain_area : Value} {odplain_area anplain_area : Option Addr} {slplain_area : Array (Option Value)} {f_may_meet : Addr} {ocmay_meet kVmay_meet dcmay_meet pmmay_meet cvmay_meet ctmay_meet : Value} {odmay_meet anmay_meet : Option Addr} {slmay_meet : Array (Option Value)} {f_common_area : Addr} {occommon_area kVcommon_area dccommon_area pmcommon_area cvcommon_area ctcommon_area : Value} {odcommon_area ancommon_area : Option Addr} {slcommon_area : Array (Option Value)} {f_part_of : Addr} {ocpart_of kVpart_of dcpart_of pmpart_of cvpart_of ctpart_of : Value} {odpart_of anpart_of : Option Addr} {slpart_of : Array (Option Value)} {f_parts_without : Addr} {ocparts_without kVparts_without dcparts_without pmparts_without cvparts_without ctparts_without : Value} {odparts_without anparts_without : Option Addr} {slparts_without : Array (Option Value)} {f__law_bare : Addr} {oc_law_bare kV_law_bare dc_law_bare pm_law_bare cv_law_bare ct_law_bare : Value} {od_law_bare an_law_bare : Option Addr} {sl_law_bare : Array (Option Value)} {f__law_meet : Addr} {oc_law_meet kV_law_meet dc_law_meet pm_law_meet cv_law_meet ct_law_meet : Value} {od_law_meet an_law_meet : Option Addr} {sl_law_meet : Array (Option Value)} {f__law_shared : Addr} {oc_law_shared kV_law_shared dc_law_shared pm_law_shared cv_law_shared ct_law_shared : Value} {od_law_shared an_law_shared : Option Addr} {sl_law_shared : Array (Option Value)} {f__law_left_over : Addr} {oc_law_left_over kV_law_left_over dc_law_left_over pm_law_left_over cv_law_left_over ct_law_left_over : Value} {od_law_left_over an_law_left_over : Option Addr} {sl_law_left_over : Array (Option Value)} {f__law_alike : Addr} {oc_law_alike kV_law_alike dc_law_alike pm_law_alike cv_law_alike ct_law_alike : Value} {od_law_alike an_law_alike : Option Addr} {sl_law_alike : Array (Option Value)} {f__law_pair_right : Addr} {oc_law_pair_right kV_law_pair_right dc_law_pair_right pm_law_pair_right ct_law_pair_right : Value} {od_law_pair_right an_law_pair_right : Option Addr} {sl_law_pair_right : Array (Option Value)} {c__law_pair_right : Addr} {f__law_has_right : Addr} {oc_law_has_right kV_law_has_right dc_law_has_right pm_law_has_right cv_law_has_right ct_law_has_right : Value} {od_law_has_right an_law_has_right : Option Addr} {sl_law_has_right : Array (Option Value)} {f__law_cells_right : Addr} {oc_law_cells_right kV_law_cells_right dc_law_cells_right pm_law_cells_right ct_law_cells_right : Value} {od_law_cells_right an_law_cells_right : Option Addr} {sl_law_cells_right : Array (Option Value)} {c__law_cells_right : Addr} {f_law : Addr} {oclaw kVlaw dclaw pmlaw cvlaw ctlaw : Value} {odlaw anlaw : Option Addr} {sllaw : Array (Option Value)} {f__law_pen : Addr} {oc_law_pen kV_law_pen dc_law_pen pm_law_pen cv_law_pen ct_law_pen : Value} {od_law_pen an_law_pen : Option Addr} {sl_law_pen : Array (Option Value)} {p__law_in_order : Addr} {cw_law_in_order : Value} {cx_law_in_order : Option Addr} {cy_law_in_order : Array Value} {cz_law_in_order : Array (Option Value)} {p__law_made_right : Addr} {cw_law_made_right : Value} {cx_law_made_right : Option Addr} {cy_law_made_right : Array Value} {cz_law_made_right : Array (Option Value)} {p__law_pair_right : Addr} {cw_law_pair_right : Value} {cx_law_pair_right : Option Addr} {cy_law_pair_right : Array Value} {cz_law_pair_right : Array (Option Value)} {p__law_cells_right : Addr} {cw_law_cells_right : Value} {cx_law_cells_right : Option Addr} {cy_law_cells_right : Array Value} {cz_law_cells_right : Array (Option Value)}
    (hn_all : PySem.W.nsIn K mainGlobals "all" = some none)
    (hn_bool : PySem.W.nsIn K mainGlobals "bool" = some none)
    (hn_int : PySem.W.nsIn K mainGlobals "int" = some none)
    (hn_isinstance : PySem.W.nsIn K mainGlobals "isinstance" = some none)
    (hn_len : PySem.W.nsIn K mainGlobals "len" = some none)
    (hn_max : PySem.W.nsIn K mainGlobals "max" = some none)
    (hn_min : PySem.W.nsIn K mainGlobals "min" = some none)
    (hn_range : PySem.W.nsIn K mainGlobals "range" = some none)
    (hn_sorted : PySem.W.nsIn K mainGlobals "sorted" = some none)
    (hn_str : PySem.W.nsIn K mainGlobals "str" = some none)
    (hn_tuple : PySem.W.nsIn K mainGlobals "tuple" = some none)
    (hn_super : PySem.W.nsIn K mainGlobals "super" = some none)
    (hn_list : PySem.W.nsIn K mainGlobals "list" = some none)
    (hg_MOST_CELLS : PySem.W.nsIn K mainGlobals "MOST_CELLS" = some (some (.int v_MOST_CELLS tk_MOST_CELLS)))
    (he_MOST_CELLS : v_MOST_CELLS = 10000)
    (hg_MOST_COLUMNS : PySem.W.nsIn K mainGlobals "MOST_COLUMNS" = some (some (.int v_MOST_COLUMNS tk_MOST_COLUMNS)))
    (he_MOST_COLUMNS : v_MOST_COLUMNS = 18278)
    (hg_MOST_ROWS : PySem.W.nsIn K mainGlobals "MOST_ROWS" = some (some (.int v_MOST_ROWS tk_MOST_ROWS)))
    (he_MOST_ROWS : v_MOST_ROWS = 1000000)
    (ha_Address : PySem.W.nsIn K mainGlobals "Address" = some (some (.ref C_Address)))
    (ha_Area : PySem.W.nsIn K mainGlobals "Area" = some (some (.ref C_Area)))
    (ha_BadValue : PySem.W.nsIn K mainGlobals "BadValue" = some (some (.ref C_BadValue)))
    (ha_NotAName : PySem.W.nsIn K mainGlobals "NotAName" = some (some (.ref C_NotAName)))
    (ha_OffGrid : PySem.W.nsIn K mainGlobals "OffGrid" = some (some (.ref C_OffGrid)))
    (ha_TooMany : PySem.W.nsIn K mainGlobals "TooMany" = some (some (.ref C_TooMany)))
    (hex_BadValue : PySem.W.subIn K (.ref C_BadValue) (.type "BaseException") = some true)
    (hhd_BadValue : PySem.W.hasDictIn K C_BadValue = true)
    (hty_BadValue : PySem.W.typeIn K (.ref C_BadValue) = some (.type "type"))
    (hga_BadValue : PySem.W.findIn K (.ref C_BadValue) "__getattribute__" = some (some (.builtin "BaseException.__getattribute__")))
    (hgg_BadValue : PySem.W.findIn K (.ref C_BadValue) "__getattr__" = some none)
    (hno_BadValue_value : PySem.W.findIn K (.ref C_BadValue) "value" = some none)
    (hex_NotAName : PySem.W.subIn K (.ref C_NotAName) (.type "BaseException") = some true)
    (hhd_NotAName : PySem.W.hasDictIn K C_NotAName = true)
    (hty_NotAName : PySem.W.typeIn K (.ref C_NotAName) = some (.type "type"))
    (hga_NotAName : PySem.W.findIn K (.ref C_NotAName) "__getattribute__" = some (some (.builtin "BaseException.__getattribute__")))
    (hgg_NotAName : PySem.W.findIn K (.ref C_NotAName) "__getattr__" = some none)
    (hno_NotAName_name : PySem.W.findIn K (.ref C_NotAName) "name" = some none)
    (hex_OffGrid : PySem.W.subIn K (.ref C_OffGrid) (.type "BaseException") = some true)
    (hhd_OffGrid : PySem.W.hasDictIn K C_OffGrid = true)
    (hty_OffGrid : PySem.W.typeIn K (.ref C_OffGrid) = some (.type "type"))
    (hga_OffGrid : PySem.W.findIn K (.ref C_OffGrid) "__getattribute__" = some (some (.builtin "BaseException.__getattribute__")))
    (hgg_OffGrid : PySem.W.findIn K (.ref C_OffGrid) "__getattr__" = some none)
    (hno_OffGrid_column : PySem.W.findIn K (.ref C_OffGrid) "column" = some none)
    (hno_OffGrid_row : PySem.W.findIn K (.ref C_OffGrid) "row" = some none)
    (hex_TooMany : PySem.W.subIn K (.ref C_TooMany) (.type "BaseException") = some true)
    (hhd_TooMany : PySem.W.hasDictIn K C_TooMany = true)
    (hty_TooMany : PySem.W.typeIn K (.ref C_TooMany) = some (.type "type"))
    (hga_TooMany : PySem.W.findIn K (.ref C_TooMany) "__getattribute__" = some (some (.builtin "BaseException.__getattribute__")))
    (hgg_TooMany : PySem.W.findIn K (.ref C_TooMany) "__getattr__" = some none)
    (hno_TooMany_most : PySem.W.findIn K (.ref C_TooMany) "most" = some none)
    (hopq : PySem.W.nsIn K PySem.cStatics "thirdparty.any" = some none)
    (hhtop : (l.prog.main.scope.names.lookup ("super" : Str)).isSome = false)
    (hx_BadValue : K.lookup C_BadValue = some (excClassObj nm_BadValue q_BadValue C_BadValue N_BadValue bs_BadValue bm_BadValue true sn_BadValue sub_BadValue ab_BadValue col_BadValue dd_BadValue m0_BadValue m1_BadValue m2_BadValue m3_BadValue m5_BadValue "ValueError.__new__"))
    (hv_BadValue : PySem.HandSPX.refsVE bm_BadValue = true)
    (hsa_BadValue : PySem.W.findIn K (.ref C_BadValue) "__setattr__" = some (some (.builtin "object.__setattr__")))
    (hi_BadValue : PySem.W.findIn K (.ref C_BadValue) "__init__" = some (some (.ref fI_BadValue)))
    (ht_BadValue : PySem.W.typeIn K (.ref fI_BadValue) = some (.type "function"))
    (hl_BadValue : K.lookup fI_BadValue = some ⟨oc_BadValue, od_BadValue, .func (PySem.W.ksFn "__init__" "BadValue.__init__" (PySem.EX.iA "value" ⟨9, 17, 9, 21⟩ ⟨9, 23, 9, 28⟩) (PySem.EX.iB "value" ⟨10, 8, 10, 13⟩ ⟨10, 8, 10, 15⟩ ⟨10, 8, 10, 24⟩ ⟨10, 25, 10, 30⟩ ⟨10, 8, 10, 31⟩ ⟨10, 8, 10, 31⟩ ⟨11, 8, 11, 12⟩ ⟨11, 8, 11, 18⟩ ⟨11, 21, 11, 26⟩ ⟨11, 8, 11, 26⟩) (PySem.EX.iS "value") .none .none dc_BadValue pm_BadValue an_BadValue (.ref cd_BadValue) ct_BadValue cc_BadValue), sl_BadValue⟩)
    (hco_BadValue : PySem.W.codeIn K (.ref cd_BadValue) "BadValue.__init__" = true)
    (hlc_BadValue : K.lookup cd_BadValue = some ⟨ccl_BadValue, cdd_BadValue, .fields vs_BadValue, ccs_BadValue⟩)
    (hvf_BadValue : vs_BadValue[2]? = some (.str fl_BadValue tf_BadValue))
    (hff_BadValue : ((l.prog.main.file : Str) == fl_BadValue) = true)
    (hlx_BadValue : K.lookup cc_BadValue = some ⟨cl_BadValue, cld_BadValue, .cell (some (.ref C_BadValue)), csl_BadValue⟩)
    (hk_BadValue : PySem.W.keepIn K (.ref C_BadValue) = true)
    (hve_BadValue : PySem.W.subIn K (.ref C_BadValue) (.type "ValueError") = some true)
    (hsu_BadValue : PySem.W.ks_superIn K C_BadValue C_BadValue "__init__" = some (some (.builtin "ValueError.__init__")))
    (hse_BadValue : PySem.W.mroIn K C_BadValue (.ref C_BadValue) = some true)
    (hx_OffGrid : K.lookup C_OffGrid = some (excClassObj nm_OffGrid q_OffGrid C_OffGrid N_OffGrid bs_OffGrid bm_OffGrid true sn_OffGrid sub_OffGrid ab_OffGrid col_OffGrid dd_OffGrid m0_OffGrid m1_OffGrid m2_OffGrid m3_OffGrid m5_OffGrid "ValueError.__new__"))
    (hv_OffGrid : PySem.HandSPX.refsVE bm_OffGrid = true)
    (hsa_OffGrid : PySem.W.findIn K (.ref C_OffGrid) "__setattr__" = some (some (.builtin "object.__setattr__")))
    (hi_OffGrid : PySem.W.findIn K (.ref C_OffGrid) "__init__" = some (some (.ref fI_OffGrid)))
    (ht_OffGrid : PySem.W.typeIn K (.ref fI_OffGrid) = some (.type "function"))
    (hl_OffGrid : K.lookup fI_OffGrid = some ⟨oc_OffGrid, od_OffGrid, .func (PySem.W.ksFn "__init__" "OffGrid.__init__" (PySem.EY.iA "row" "column" ⟨24, 17, 24, 21⟩ ⟨24, 23, 24, 26⟩ ⟨24, 28, 24, 34⟩) (PySem.EY.iB "row" "column" ⟨25, 8, 25, 13⟩ ⟨25, 8, 25, 15⟩ ⟨25, 8, 25, 24⟩ ⟨25, 25, 25, 28⟩ ⟨25, 30, 25, 36⟩ ⟨25, 8, 25, 37⟩ ⟨25, 8, 25, 37⟩ ⟨26, 8, 26, 12⟩ ⟨26, 8, 26, 16⟩ ⟨26, 19, 26, 22⟩ ⟨26, 8, 26, 22⟩ ⟨27, 8, 27, 12⟩ ⟨27, 8, 27, 19⟩ ⟨27, 22, 27, 28⟩ ⟨27, 8, 27, 28⟩) (PySem.EY.iS "row" "column") .none .none dc_OffGrid pm_OffGrid an_OffGrid (.ref cd_OffGrid) ct_OffGrid cc_OffGrid), sl_OffGrid⟩)
    (hco_OffGrid : PySem.W.codeIn K (.ref cd_OffGrid) "OffGrid.__init__" = true)
    (hlc_OffGrid : K.lookup cd_OffGrid = some ⟨ccl_OffGrid, cdd_OffGrid, .fields vs_OffGrid, ccs_OffGrid⟩)
    (hvf_OffGrid : vs_OffGrid[2]? = some (.str fl_OffGrid tf_OffGrid))
    (hff_OffGrid : ((l.prog.main.file : Str) == fl_OffGrid) = true)
    (hlx_OffGrid : K.lookup cc_OffGrid = some ⟨cl_OffGrid, cld_OffGrid, .cell (some (.ref C_OffGrid)), csl_OffGrid⟩)
    (hk_OffGrid : PySem.W.keepIn K (.ref C_OffGrid) = true)
    (hve_OffGrid : PySem.W.subIn K (.ref C_OffGrid) (.type "ValueError") = some true)
    (hsu_OffGrid : PySem.W.ks_superIn K C_OffGrid C_OffGrid "__init__" = some (some (.builtin "ValueError.__init__")))
    (hse_OffGrid : PySem.W.mroIn K C_OffGrid (.ref C_OffGrid) = some true)
    (hx_TooMany : K.lookup C_TooMany = some (excClassObj nm_TooMany q_TooMany C_TooMany N_TooMany bs_TooMany bm_TooMany true sn_TooMany sub_TooMany ab_TooMany col_TooMany dd_TooMany m0_TooMany m1_TooMany m2_TooMany m3_TooMany m5_TooMany "ValueError.__new__"))
    (hv_TooMany : PySem.HandSPX.refsVE bm_TooMany = true)
    (hsa_TooMany : PySem.W.findIn K (.ref C_TooMany) "__setattr__" = some (some (.builtin "object.__setattr__")))
    (hi_TooMany : PySem.W.findIn K (.ref C_TooMany) "__init__" = some (some (.ref fI_TooMany)))
    (ht_TooMany : PySem.W.typeIn K (.ref fI_TooMany) = some (.type "function"))
    (hl_TooMany : K.lookup fI_TooMany = some ⟨oc_TooMany, od_TooMany, .func (PySem.W.ksFn "__init__" "TooMany.__init__" (PySem.EX.iA "most" ⟨14, 17, 14, 21⟩ ⟨14, 23, 14, 27⟩) (PySem.EX.iB "most" ⟨15, 8, 15, 13⟩ ⟨15, 8, 15, 15⟩ ⟨15, 8, 15, 24⟩ ⟨15, 25, 15, 29⟩ ⟨15, 8, 15, 30⟩ ⟨15, 8, 15, 30⟩ ⟨16, 8, 16, 12⟩ ⟨16, 8, 16, 17⟩ ⟨16, 20, 16, 24⟩ ⟨16, 8, 16, 24⟩) (PySem.EX.iS "most") .none .none dc_TooMany pm_TooMany an_TooMany (.ref cd_TooMany) ct_TooMany cc_TooMany), sl_TooMany⟩)
    (hco_TooMany : PySem.W.codeIn K (.ref cd_TooMany) "TooMany.__init__" = true)
    (hlc_TooMany : K.lookup cd_TooMany = some ⟨ccl_TooMany, cdd_TooMany, .fields vs_TooMany, ccs_TooMany⟩)
    (hvf_TooMany : vs_TooMany[2]? = some (.str fl_TooMany tf_TooMany))
    (hff_TooMany : ((l.prog.main.file : Str) == fl_TooMany) = true)
    (hlx_TooMany : K.lookup cc_TooMany = some ⟨cl_TooMany, cld_TooMany, .cell (some (.ref C_TooMany)), csl_TooMany⟩)
    (hk_TooMany : PySem.W.keepIn K (.ref C_TooMany) = true)
    (hve_TooMany : PySem.W.subIn K (.ref C_TooMany) (.type "ValueError") = some true)
    (hsu_TooMany : PySem.W.ks_superIn K C_TooMany C_TooMany "__init__" = some (some (.builtin "ValueError.__init__")))
    (hse_TooMany : PySem.W.mroIn K C_TooMany (.ref C_TooMany) = some true)
    (hs_BadValue_BadValue : PySem.W.subIn K (.ref C_BadValue) (.ref C_BadValue) = some true)
    (hs_TooMany_BadValue : PySem.W.subIn K (.ref C_TooMany) (.ref C_BadValue) = some false)
    (hs_TooMany_NotAName : PySem.W.subIn K (.ref C_TooMany) (.ref C_NotAName) = some false)
    (hs_TooMany_OffGrid : PySem.W.subIn K (.ref C_TooMany) (.ref C_OffGrid) = some false)
    (hs_TooMany_TooMany : PySem.W.subIn K (.ref C_TooMany) (.ref C_TooMany) = some true)
    (hpg_Address : PySem.W.plainGet K C_Address Str.empty = true)
    (hhd_Address : PySem.W.hasDictIn K C_Address = true)
    (hpo_Address : PySem.W.plainOver K C_Address = true)
    (hsa_Address : PySem.W.findIn K (.ref C_Address) "__setattr__" = some (some (.builtin "object.__setattr__")))
    (hno_Address_column : PySem.W.findIn K (.ref C_Address) "column" = some none)
    (hno_Address_fixed_column : PySem.W.findIn K (.ref C_Address) "fixed_column" = some none)
    (hno_Address_fixed_row : PySem.W.findIn K (.ref C_Address) "fixed_row" = some none)
    (hno_Address_row : PySem.W.findIn K (.ref C_Address) "row" = some none)
    (hno_Address_sheet : PySem.W.findIn K (.ref C_Address) "sheet" = some none)
    (hha_Address : PySem.W.findIn K (.ref C_Address) "__class__" = some (some (.builtin "object.__class__")))
    (hhm_Address : PySem.W.mroIn K C_Address (.type "object") = some true)
    (hmk_Address : PySem.W.makesIn K C_Address = true)
    (hk_Address : PySem.W.keepIn K (.ref C_Address) = true)
    (hpg_Area : PySem.W.plainGet K C_Area Str.empty = true)
    (hhd_Area : PySem.W.hasDictIn K C_Area = true)
    (hpo_Area : PySem.W.plainOver K C_Area = true)
    (hsa_Area : PySem.W.findIn K (.ref C_Area) "__setattr__" = some (some (.builtin "object.__setattr__")))
    (hno_Area_first : PySem.W.findIn K (.ref C_Area) "first" = some none)
    (hno_Area_height : PySem.W.findIn K (.ref C_Area) "height" = some none)
    (hno_Area_last : PySem.W.findIn K (.ref C_Area) "last" = some none)
    (hno_Area_sheet : PySem.W.findIn K (.ref C_Area) "sheet" = some none)
    (hno_Area_whole : PySem.W.findIn K (.ref C_Area) "whole" = some none)
    (hno_Area_width : PySem.W.findIn K (.ref C_Area) "width" = some none)
    (hha_Area : PySem.W.findIn K (.ref C_Area) "__class__" = some (some (.builtin "object.__class__")))
    (hhm_Area : PySem.W.mroIn K C_Area (.type "object") = some true)
    (hmk_Area : PySem.W.makesIn K C_Area = true)
    (hk_Area : PySem.W.keepIn K (.ref C_Area) = true)
    (hhn : PySem.W.specialIn K (.builtin "object.__class__") "__get__" = some (some (.builtin "getset_descriptor.__get__")))
    (hht : PySem.W.takesIn K (.builtin "object.__class__") = some true)
    (hkt_Address_Address : PySem.W.kitOne K (.ref C_Address) (.ref C_Address) = some true)
    (hkt_Area_Area : PySem.W.kitOne K (.ref C_Area) (.ref C_Area) = some true)
    (hkt_NoneType_Address : PySem.W.kitOne K (.type "NoneType") (.ref C_Address) = some false)
    (hkt_bool_Address : PySem.W.kitOne K (.type "bool") (.ref C_Address) = some false)
    (hkt_int_Address : PySem.W.kitOne K (.type "int") (.ref C_Address) = some false)
    (hkt_str_Address : PySem.W.kitOne K (.type "str") (.ref C_Address) = some false)
    (hkt_list_Address : PySem.W.kitOne K (.type "list") (.ref C_Address) = some false)
    (hkt_tuple_Address : PySem.W.kitOne K (.type "tuple") (.ref C_Address) = some false)
    (hkt_NoneType_Area : PySem.W.kitOne K (.type "NoneType") (.ref C_Area) = some false)
    (hkt_bool_Area : PySem.W.kitOne K (.type "bool") (.ref C_Area) = some false)
    (hkt_int_Area : PySem.W.kitOne K (.type "int") (.ref C_Area) = some false)
    (hkt_str_Area : PySem.W.kitOne K (.type "str") (.ref C_Area) = some false)
    (hkt_list_Area : PySem.W.kitOne K (.type "list") (.ref C_Area) = some false)
    (hkt_tuple_Area : PySem.W.kitOne K (.type "tuple") (.ref C_Area) = some false)
    (hnf_Address_Address : PySem.W.notFirst K C_Address (.ref C_Address) = true)
    (hnf_Area_Area : PySem.W.notFirst K C_Area (.ref C_Area) = true)
    (hfiAddress_init : PySem.W.findIn K (.ref C_Address) "__init__" = some (some (.ref f_Address_init)))
    (hlAddress_init : K.lookup f_Address_init = some ⟨ocAddress_init, odAddress_init, .func (PySem.W.fnOf "__init__" "Address.__init__" (defArgs (inClass (top 22) 0)) (defBody (inClass (top 22) 0)) (defScope (inClass (top 22) 0)) .none (.ref D_Address_init) dcAddress_init pmAddress_init anAddress_init cvAddress_init ctAddress_init), slAddress_init⟩)
    (hcAddress_init : PySem.W.codeIn K cvAddress_init "Address.__init__" = true)
    (hkAddress_init : PySem.W.keepIn K (.ref f_Address_init) = true)
    (hisfAddress_init : PySem.W.isFn K (.ref f_Address_init) = true)
    (hkwAddress_init_fixed_row : PySem.W.nsIn K D_Address_init "fixed_row" = some (some (.bool false)))
    (hkwAddress_init_fixed_column : PySem.W.nsIn K D_Address_init "fixed_column" = some (some (.bool false)))
    (hkwAddress_init_sheet : PySem.W.nsIn K D_Address_init "sheet" = some (some .none))
    (hfiArea_init : PySem.W.findIn K (.ref C_Area) "__init__" = some (some (.ref f_Area_init)))
    (hlArea_init : K.lookup f_Area_init = some ⟨ocArea_init, odArea_init, .func (PySem.W.fnOf "__init__" "Area.__init__" (defArgs (inClass (top 30) 0)) (defBody (inClass (top 30) 0)) (defScope (inClass (top 30) 0)) .none (.ref D_Area_init) dcArea_init pmArea_init anArea_init cvArea_init ctArea_init), slArea_init⟩)
    (hcArea_init : PySem.W.codeIn K cvArea_init "Area.__init__" = true)
    (hkArea_init : PySem.W.keepIn K (.ref f_Area_init) = true)
    (hisfArea_init : PySem.W.isFn K (.ref f_Area_init) = true)
    (hkwArea_init_whole : PySem.W.nsIn K D_Area_init "whole" = some (some .none))
    (hfiAddress_eq : PySem.W.findIn K (.ref C_Address) "__eq__" = some (some (.ref f_Address_eq)))
    (hlAddress_eq : K.lookup f_Address_eq = some ⟨ocAddress_eq, odAddress_eq, .func (PySem.W.fnOf "__eq__" "Address.__eq__" (defArgs (inClass (top 22) 1)) (defBody (inClass (top 22) 1)) (defScope (inClass (top 22) 1)) .none kVAddress_eq dcAddress_eq pmAddress_eq anAddress_eq cvAddress_eq ctAddress_eq), slAddress_eq⟩)
    (hcAddress_eq : PySem.W.codeIn K cvAddress_eq "Address.__eq__" = true)
    (hkAddress_eq : PySem.W.keepIn K (.ref f_Address_eq) = true)
    (hisfAddress_eq : PySem.W.isFn K (.ref f_Address_eq) = true)
    (hneAddress_eq : PySem.W.findIn K (.ref C_Address) "__ne__" = some (some (.builtin "object.__ne__")))
    (hobAddress_eq : PySem.W.subIn K (.ref C_Address) (.type "object") = some true)
    (hfiArea_eq : PySem.W.findIn K (.ref C_Area) "__eq__" = some (some (.ref f_Area_eq)))
    (hlArea_eq : K.lookup f_Area_eq = some ⟨ocArea_eq, odArea_eq, .func (PySem.W.fnOf "__eq__" "Area.__eq__" (defArgs (inClass (top 30) 1)) (defBody (inClass (top 30) 1)) (defScope (inClass (top 30) 1)) .none kVArea_eq dcArea_eq pmArea_eq anArea_eq cvArea_eq ctArea_eq), slArea_eq⟩)
    (hcArea_eq : PySem.W.codeIn K cvArea_eq "Area.__eq__" = true)
    (hkArea_eq : PySem.W.keepIn K (.ref f_Area_eq) = true)
    (hisfArea_eq : PySem.W.isFn K (.ref f_Area_eq) = true)
    (hneArea_eq : PySem.W.findIn K (.ref C_Area) "__ne__" = some (some (.builtin "object.__ne__")))
    (hobArea_eq : PySem.W.subIn K (.ref C_Area) (.type "object") = some true)
    (hfiArea_common : PySem.W.findIn K (.ref C_Area) "common" = some (some (.ref f_Area_common)))
    (hlArea_common : K.lookup f_Area_common = some ⟨ocArea_common, odArea_common, .func (PySem.W.fnOf "common" "Area.common" (defArgs (inClass (top 30) 3)) (defBody (inClass (top 30) 3)) (defScope (inClass (top 30) 3)) .none kVArea_common dcArea_common pmArea_common anArea_common cvArea_common ctArea_common), slArea_common⟩)
    (hcArea_common : PySem.W.codeIn K cvArea_common "Area.common" = true)
    (hkArea_common : PySem.W.keepIn K (.ref f_Area_common) = true)
    (hisfArea_common : PySem.W.isFn K (.ref f_Area_common) = true)
    (hfiArea_without : PySem.W.findIn K (.ref C_Area) "without" = some (some (.ref f_Area_without)))
    (hlArea_without : K.lookup f_Area_without = some ⟨ocArea_without, odArea_without, .func (PySem.W.fnOf "without" "Area.without" (defArgs (inClass (top 30) 4)) (defBody (inClass (top 30) 4)) (defScope (inClass (top 30) 4)) .none kVArea_without dcArea_without pmArea_without anArea_without cvArea_without ctArea_without), slArea_without⟩)
    (hcArea_without : PySem.W.codeIn K cvArea_without "Area.without" = true)
    (hkArea_without : PySem.W.keepIn K (.ref f_Area_without) = true)
    (hisfArea_without : PySem.W.isFn K (.ref f_Area_without) = true)
    (hfiArea_has : PySem.W.findIn K (.ref C_Area) "has" = some (some (.ref f_Area_has)))
    (hlArea_has : K.lookup f_Area_has = some ⟨ocArea_has, odArea_has, .func (PySem.W.fnOf "has" "Area.has" (defArgs (inClass (top 30) 2)) (defBody (inClass (top 30) 2)) (defScope (inClass (top 30) 2)) .none kVArea_has dcArea_has pmArea_has anArea_has cvArea_has ctArea_has), slArea_has⟩)
    (hcArea_has : PySem.W.codeIn K cvArea_has "Area.has" = true)
    (hkArea_has : PySem.W.keepIn K (.ref f_Area_has) = true)
    (hisfArea_has : PySem.W.isFn K (.ref f_Area_has) = true)
    (hfiArea_cells : PySem.W.findIn K (.ref C_Area) "cells" = some (some (.ref f_Area_cells)))
    (hlArea_cells : K.lookup f_Area_cells = some ⟨ocArea_cells, odArea_cells, .func (PySem.W.fnOf "cells" "Area.cells" (defArgs (inClass (top 30) 5)) (defBody (inClass (top 30) 5)) (defScope (inClass (top 30) 5)) .none kVArea_cells dcArea_cells pmArea_cells anArea_cells cvArea_cells ctArea_cells), slArea_cells⟩)
    (hcArea_cells : PySem.W.codeIn K cvArea_cells "Area.cells" = true)
    (hkArea_cells : PySem.W.keepIn K (.ref f_Area_cells) = true)
    (hisfArea_cells : PySem.W.isFn K (.ref f_Area_cells) = true)
    (ha_law_draw : PySem.W.nsIn K mainGlobals "_law_draw" = some (some (.ref f__law_draw)))
    (hl_law_draw : K.lookup f__law_draw = some ⟨oc_law_draw, od_law_draw, .func (PySem.W.fnOf "_law_draw" "_law_draw" (defArgs (top 38)) (defBody (top 38)) (defScope (top 38)) .none kV_law_draw dc_law_draw pm_law_draw an_law_draw cv_law_draw ct_law_draw), sl_law_draw⟩)
    (hc_law_draw : PySem.W.codeIn K cv_law_draw "_law_draw" = true)
    (hk_law_draw : PySem.W.keepIn K (.ref f__law_draw) = true)
    (ha_law_pick : PySem.W.nsIn K mainGlobals "_law_pick" = some (some (.ref f__law_pick)))
    (hl_law_pick : K.lookup f__law_pick = some ⟨oc_law_pick, od_law_pick, .func (PySem.W.fnOf "_law_pick" "_law_pick" (defArgs (top 39)) (defBody (top 39)) (defScope (top 39)) .none kV_law_pick dc_law_pick pm_law_pick an_law_pick cv_law_pick ct_law_pick), sl_law_pick⟩)
    (hc_law_pick : PySem.W.codeIn K cv_law_pick "_law_pick" = true)
    (hk_law_pick : PySem.W.keepIn K (.ref f__law_pick) = true)
    (ha_law_corners : PySem.W.nsIn K mainGlobals "_law_corners" = some (some (.ref f__law_corners)))
    (hl_law_corners : K.lookup f__law_corners = some ⟨oc_law_corners, od_law_corners, .func (PySem.W.fnOf "_law_corners" "_law_corners" (defArgs (top 43)) (defBody (top 43)) (defScope (top 43)) .none kV_law_corners dc_law_corners pm_law_corners an_law_corners cv_law_corners ct_law_corners), sl_law_corners⟩)
    (hc_law_corners : PySem.W.codeIn K cv_law_corners "_law_corners" = true)
    (hk_law_corners : PySem.W.keepIn K (.ref f__law_corners) = true)
    (ha_law_area : PySem.W.nsIn K mainGlobals "_law_area" = some (some (.ref f__law_area)))
    (hl_law_area : K.lookup f__law_area = some ⟨oc_law_area, od_law_area, .func (PySem.W.fnOf "_law_area" "_law_area" (defArgs (top 45)) (defBody (top 45)) (defScope (top 45)) .none kV_law_area dc_law_area pm_law_area an_law_area cv_law_area ct_law_area), sl_law_area⟩)
    (hc_law_area : PySem.W.codeIn K cv_law_area "_law_area" = true)
    (hk_law_area : PySem.W.keepIn K (.ref f__law_area) = true)
    (hais_integer : PySem.W.nsIn K mainGlobals "is_integer" = some (some (.ref f_is_integer)))
    (hlis_integer : K.lookup f_is_integer = some ⟨ocis_integer, odis_integer, .func (PySem.W.fnOf "is_integer" "is_integer" (defArgs (top 8)) (defBody (top 8)) (defScope (top 8)) .none kVis_integer dcis_integer pmis_integer anis_integer cvis_integer ctis_integer), slis_integer⟩)
    (hcis_integer : PySem.W.codeIn K cvis_integer "is_integer" = true)
    (hkis_integer : PySem.W.keepIn K (.ref f_is_integer) = true)
    (haneed_integer : PySem.W.nsIn K mainGlobals "need_integer" = some (some (.ref f_need_integer)))
    (hlneed_integer : K.lookup f_need_integer = some ⟨ocneed_integer, odneed_integer, .func (PySem.W.fnOf "need_integer" "need_integer" (defArgs (top 9)) (defBody (top 9)) (defScope (top 9)) .none kVneed_integer dcneed_integer pmneed_integer anneed_integer cvneed_integer ctneed_integer), slneed_integer⟩)
    (hcneed_integer : PySem.W.codeIn K cvneed_integer "need_integer" = true)
    (hkneed_integer : PySem.W.keepIn K (.ref f_need_integer) = true)
    (haneed_truth : PySem.W.nsIn K mainGlobals "need_truth" = some (some (.ref f_need_truth)))
    (hlneed_truth : K.lookup f_need_truth = some ⟨ocneed_truth, odneed_truth, .func (PySem.W.fnOf "need_truth" "need_truth" (defArgs (top 10)) (defBody (top 10)) (defScope (top 10)) .none kVneed_truth dcneed_truth pmneed_truth anneed_truth cvneed_truth ctneed_truth), slneed_truth⟩)
    (hcneed_truth : PySem.W.codeIn K cvneed_truth "need_truth" = true)
    (hkneed_truth : PySem.W.keepIn K (.ref f_need_truth) = true)
    (hais_letter : PySem.W.nsIn K mainGlobals "is_letter" = some (some (.ref f_is_letter)))
    (hlis_letter : K.lookup f_is_letter = some ⟨ocis_letter, odis_letter, .func (PySem.W.fnOf "is_letter" "is_letter" (defArgs (top 13)) (defBody (top 13)) (defScope (top 13)) .none kVis_letter dcis_letter pmis_letter anis_letter cvis_letter ctis_letter), slis_letter⟩)
    (hcis_letter : PySem.W.codeIn K cvis_letter "is_letter" = true)
    (hkis_letter : PySem.W.keepIn K (.ref f_is_letter) = true)
    (hais_digit : PySem.W.nsIn K mainGlobals "is_digit" = some (some (.ref f_is_digit)))
    (hlis_digit : K.lookup f_is_digit = some ⟨ocis_digit, odis_digit, .func (PySem.W.fnOf "is_digit" "is_digit" (defArgs (top 12)) (defBody (top 12)) (defScope (top 12)) .none kVis_digit dcis_digit pmis_digit anis_digit cvis_digit ctis_digit), slis_digit⟩)
    (hcis_digit : PySem.W.codeIn K cvis_digit "is_digit" = true)
    (hkis_digit : PySem.W.keepIn K (.ref f_is_digit) = true)
    (hais_sheet_word : PySem.W.nsIn K mainGlobals "is_sheet_word" = some (some (.ref f_is_sheet_word)))
    (hlis_sheet_word : K.lookup f_is_sheet_word = some ⟨ocis_sheet_word, odis_sheet_word, .func (PySem.W.fnOf "is_sheet_word" "is_sheet_word" (defArgs (top 15)) (defBody (top 15)) (defScope (top 15)) .none kVis_sheet_word dcis_sheet_word pmis_sheet_word anis_sheet_word cvis_sheet_word ctis_sheet_word), slis_sheet_word⟩)
    (hcis_sheet_word : PySem.W.codeIn K cvis_sheet_word "is_sheet_word" = true)
    (hkis_sheet_word : PySem.W.keepIn K (.ref f_is_sheet_word) = true)
    (haneed_sheet_word : PySem.W.nsIn K mainGlobals "need_sheet_word" = some (some (.ref f_need_sheet_word)))
    (hlneed_sheet_word : K.lookup f_need_sheet_word = some ⟨ocneed_sheet_word, odneed_sheet_word, .func (PySem.W.fnOf "need_sheet_word" "need_sheet_word" (defArgs (top 20)) (defBody (top 20)) (defScope (top 20)) .none kVneed_sheet_word dcneed_sheet_word pmneed_sheet_word anneed_sheet_word cvneed_sheet_word ctneed_sheet_word), slneed_sheet_word⟩)
    (hcneed_sheet_word : PySem.W.codeIn K cvneed_sheet_word "need_sheet_word" = true)
    (hkneed_sheet_word : PySem.W.keepIn K (.ref f_need_sheet_word) = true)
    (hais_on_grid : PySem.W.nsIn K mainGlobals "is_on_grid" = some (some (.ref f_is_on_grid)))
    (hlis_on_grid : K.lookup f_is_on_grid = some ⟨ocis_on_grid, odis_on_grid, .func (PySem.W.fnOf "is_on_grid" "is_on_grid" (defArgs (top 19)) (defBody (top 19)) (defScope (top 19)) .none kVis_on_grid dcis_on_grid pmis_on_grid anis_on_grid cvis_on_grid ctis_on_grid), slis_on_grid⟩)
    (hcis_on_grid : PySem.W.codeIn K cvis_on_grid "is_on_grid" = true)
    (hkis_on_grid : PySem.W.keepIn K (.ref f_is_on_grid) = true)
    (haneed_address : PySem.W.nsIn K mainGlobals "need_address" = some (some (.ref f_need_address)))
    (hlneed_address : K.lookup f_need_address = some ⟨ocneed_address, odneed_address, .func (PySem.W.fnOf "need_address" "need_address" (defArgs (top 23)) (defBody (top 23)) (defScope (top 23)) .none kVneed_address dcneed_address pmneed_address anneed_address cvneed_address ctneed_address), slneed_address⟩)
    (hcneed_address : PySem.W.codeIn K cvneed_address "need_address" = true)
    (hkneed_address : PySem.W.keepIn K (.ref f_need_address) = true)
    (hain_order : PySem.W.nsIn K mainGlobals "in_order" = some (some (.ref f_in_order)))
    (hlin_order : K.lookup f_in_order = some ⟨ocin_order, odin_order, .func (PySem.W.fnOf "in_order" "in_order" (defArgs (top 27)) (defBody (top 27)) (defScope (top 27)) .none kVin_order dcin_order pmin_order anin_order cvin_order ctin_order), slin_order⟩)
    (hcin_order : PySem.W.codeIn K cvin_order "in_order" = true)
    (hkin_order : PySem.W.keepIn K (.ref f_in_order) = true)
    (hanormal_rows : PySem.W.nsIn K mainGlobals "normal_rows" = some (some (.ref f_normal_rows)))
    (hlnormal_rows : K.lookup f_normal_rows = some ⟨ocnormal_rows, odnormal_rows, .func (PySem.W.fnOf "normal_rows" "normal_rows" (defArgs (top 28)) (defBody (top 28)) (defScope (top 28)) .none kVnormal_rows dcnormal_rows pmnormal_rows annormal_rows cvnormal_rows ctnormal_rows), slnormal_rows⟩)
    (hcnormal_rows : PySem.W.codeIn K cvnormal_rows "normal_rows" = true)
    (hknormal_rows : PySem.W.keepIn K (.ref f_normal_rows) = true)
    (hanormal_columns : PySem.W.nsIn K mainGlobals "normal_columns" = some (some (.ref f_normal_columns)))
    (hlnormal_columns : K.lookup f_normal_columns = some ⟨ocnormal_columns, odnormal_columns, .func (PySem.W.fnOf "normal_columns" "normal_columns" (defArgs (top 29)) (defBody (top 29)) (defScope (top 29)) .none kVnormal_columns dcnormal_columns pmnormal_columns annormal_columns cvnormal_columns ctnormal_columns), slnormal_columns⟩)
    (hcnormal_columns : PySem.W.codeIn K cvnormal_columns "normal_columns" = true)
    (hknormal_columns : PySem.W.keepIn K (.ref f_normal_columns) = true)
    (hasame_sheets : PySem.W.nsIn K mainGlobals "same_sheets" = some (some (.ref f_same_sheets)))
    (hlsame_sheets : K.lookup f_same_sheets = some ⟨ocsame_sheets, odsame_sheets, .func (PySem.W.fnOf "same_sheets" "same_sheets" (defArgs (top 21)) (defBody (top 21)) (defScope (top 21)) .none kVsame_sheets dcsame_sheets pmsame_sheets ansame_sheets cvsame_sheets ctsame_sheets), slsame_sheets⟩)
    (hcsame_sheets : PySem.W.codeIn K cvsame_sheets "same_sheets" = true)
    (hksame_sheets : PySem.W.keepIn K (.ref f_same_sheets) = true)
    (ha_law_in_order : PySem.W.nsIn K mainGlobals "_law_in_order" = some (some (.ref f__law_in_order)))
    (hl_law_in_order : K.lookup f__law_in_order = some ⟨oc_law_in_order, od_law_in_order, .func (PySem.W.fnOf "_law_in_order" "_law_in_order" (defArgs (top 44)) (defBody (top 44)) (defScope (top 44)) .none kV_law_in_order dc_law_in_order pm_law_in_order an_law_in_order (.ref c__law_in_order) ct_law_in_order), sl_law_in_order⟩)
    (hc_law_in_order : PySem.W.codeIn K (.ref c__law_in_order) "_law_in_order" = true)
    (hk_law_in_order : PySem.W.keepIn K (.ref f__law_in_order) = true)
    (ha_law_normal : PySem.W.nsIn K mainGlobals "_law_normal" = some (some (.ref f__law_normal)))
    (hl_law_normal : K.lookup f__law_normal = some ⟨oc_law_normal, od_law_normal, .func (PySem.W.fnOf "_law_normal" "_law_normal" (defArgs (top 46)) (defBody (top 46)) (defScope (top 46)) .none kV_law_normal dc_law_normal pm_law_normal an_law_normal cv_law_normal ct_law_normal), sl_law_normal⟩)
    (hc_law_normal : PySem.W.codeIn K cv_law_normal "_law_normal" = true)
    (hk_law_normal : PySem.W.keepIn K (.ref f__law_normal) = true)
    (ha_law_is : PySem.W.nsIn K mainGlobals "_law_is" = some (some (.ref f__law_is)))
    (hl_law_is : K.lookup f__law_is = some ⟨oc_law_is, od_law_is, .func (PySem.W.fnOf "_law_is" "_law_is" (defArgs (top 42)) (defBody (top 42)) (defScope (top 42)) .none kV_law_is dc_law_is pm_law_is an_law_is cv_law_is ct_law_is), sl_law_is⟩)
    (hc_law_is : PySem.W.codeIn K cv_law_is "_law_is" = true)
    (hk_law_is : PySem.W.keepIn K (.ref f__law_is) = true)
    (ha_law_corner : PySem.W.nsIn K mainGlobals "_law_corner" = some (some (.ref f__law_corner)))
    (hl_law_corner : K.lookup f__law_corner = some ⟨oc_law_corner, od_law_corner, .func (PySem.W.fnOf "_law_corner" "_law_corner" (defArgs (top 47)) (defBody (top 47)) (defScope (top 47)) .none kV_law_corner dc_law_corner pm_law_corner an_law_corner cv_law_corner ct_law_corner), sl_law_corner⟩)
    (hc_law_corner : PySem.W.codeIn K cv_law_corner "_law_corner" = true)
    (hk_law_corner : PySem.W.keepIn K (.ref f__law_corner) = true)
    (ha_law_is_area : PySem.W.nsIn K mainGlobals "_law_is_area" = some (some (.ref f__law_is_area)))
    (hl_law_is_area : K.lookup f__law_is_area = some ⟨oc_law_is_area, od_law_is_area, .func (PySem.W.fnOf "_law_is_area" "_law_is_area" (defArgs (top 49)) (defBody (top 49)) (defScope (top 49)) .none kV_law_is_area dc_law_is_area pm_law_is_area an_law_is_area cv_law_is_area ct_law_is_area), sl_law_is_area⟩)
    (hc_law_is_area : PySem.W.codeIn K cv_law_is_area "_law_is_area" = true)
    (hk_law_is_area : PySem.W.keepIn K (.ref f__law_is_area) = true)
    (ha_law_made : PySem.W.nsIn K mainGlobals "_law_made" = some (some (.ref f__law_made)))
    (hl_law_made : K.lookup f__law_made = some ⟨oc_law_made, od_law_made, .func (PySem.W.fnOf "_law_made" "_law_made" (defArgs (top 41)) (defBody (top 41)) (defScope (top 41)) .none kV_law_made dc_law_made pm_law_made an_law_made cv_law_made ct_law_made), sl_law_made⟩)
    (hc_law_made : PySem.W.codeIn K cv_law_made "_law_made" = true)
    (hk_law_made : PySem.W.keepIn K (.ref f__law_made) = true)
    (ha_law_told : PySem.W.nsIn K mainGlobals "_law_told" = some (some (.ref f__law_told)))
    (hl_law_told : K.lookup f__law_told = some ⟨oc_law_told, od_law_told, .func (PySem.W.fnOf "_law_told" "_law_told" (defArgs (top 40)) (defBody (top 40)) (defScope (top 40)) .none kV_law_told dc_law_told pm_law_told an_law_told (.ref c__law_told) ct_law_told), sl_law_told⟩)
    (hc_law_told : PySem.W.codeIn K (.ref c__law_told) "_law_told" = true)
    (hk_law_told : PySem.W.keepIn K (.ref f__law_told) = true)
    (ha_law_area_made : PySem.W.nsIn K mainGlobals "_law_area_made" = some (some (.ref f__law_area_made)))
    (hl_law_area_made : K.lookup f__law_area_made = some ⟨oc_law_area_made, od_law_area_made, .func (PySem.W.fnOf "_law_area_made" "_law_area_made" (defArgs (top 48)) (defBody (top 48)) (defScope (top 48)) .none kV_law_area_made dc_law_area_made pm_law_area_made an_law_area_made cv_law_area_made ct_law_area_made), sl_law_area_made⟩)
    (hc_law_area_made : PySem.W.codeIn K cv_law_area_made "_law_area_made" = true)
    (hk_law_area_made : PySem.W.keepIn K (.ref f__law_area_made) = true)
    (ha_law_made_right : PySem.W.nsIn K mainGlobals "_law_made_right" = some (some (.ref f__law_made_right)))
    (hl_law_made_right : K.lookup f__law_made_right = some ⟨oc_law_made_right, od_law_made_right, .func (PySem.W.fnOf "_law_made_right" "_law_made_right" (defArgs (top 55)) (defBody (top 55)) (defScope (top 55)) .none kV_law_made_right dc_law_made_right pm_law_made_right an_law_made_right (.ref c__law_made_right) ct_law_made_right), sl_law_made_right⟩)
    (hc_law_made_right : PySem.W.codeIn K (.ref c__law_made_right) "_law_made_right" = true)
    (hk_law_made_right : PySem.W.keepIn K (.ref f__law_made_right) = true)
    (haneed_area : PySem.W.nsIn K mainGlobals "need_area" = some (some (.ref f_need_area)))
    (hlneed_area : K.lookup f_need_area = some ⟨ocneed_area, odneed_area, .func (PySem.W.fnOf "need_area" "need_area" (defArgs (top 31)) (defBody (top 31)) (defScope (top 31)) .none kVneed_area dcneed_area pmneed_area anneed_area cvneed_area ctneed_area), slneed_area⟩)
    (hcneed_area : PySem.W.codeIn K cvneed_area "need_area" = true)
    (hkneed_area : PySem.W.keepIn K (.ref f_need_area) = true)
    (haplain_area : PySem.W.nsIn K mainGlobals "plain_area" = some (some (.ref f_plain_area)))
    (hlplain_area : K.lookup f_plain_area = some ⟨ocplain_area, odplain_area, .func (PySem.W.fnOf "plain_area" "plain_area" (defArgs (top 26)) (defBody (top 26)) (defScope (top 26)) .none kVplain_area dcplain_area pmplain_area anplain_area cvplain_area ctplain_area), slplain_area⟩)
    (hcplain_area : PySem.W.codeIn K cvplain_area "plain_area" = true)
    (hkplain_area : PySem.W.keepIn K (.ref f_plain_area) = true)
    (hamay_meet : PySem.W.nsIn K mainGlobals "may_meet" = some (some (.ref f_may_meet)))
    (hlmay_meet : K.lookup f_may_meet = some ⟨ocmay_meet, odmay_meet, .func (PySem.W.fnOf "may_meet" "may_meet" (defArgs (top 32)) (defBody (top 32)) (defScope (top 32)) .none kVmay_meet dcmay_meet pmmay_meet anmay_meet cvmay_meet ctmay_meet), slmay_meet⟩)
    (hcmay_meet : PySem.W.codeIn K cvmay_meet "may_meet" = true)
    (hkmay_meet : PySem.W.keepIn K (.ref f_may_meet) = true)
    (hacommon_area : PySem.W.nsIn K mainGlobals "common_area" = some (some (.ref f_common_area)))
    (hlcommon_area : K.lookup f_common_area = some ⟨occommon_area, odcommon_area, .func (PySem.W.fnOf "common_area" "common_area" (defArgs (top 33)) (defBody (top 33)) (defScope (top 33)) .none kVcommon_area dccommon_area pmcommon_area ancommon_area cvcommon_area ctcommon_area), slcommon_area⟩)
    (hccommon_area : PySem.W.codeIn K cvcommon_area "common_area" = true)
    (hkcommon_area : PySem.W.keepIn K (.ref f_common_area) = true)
    (hapart_of : PySem.W.nsIn K mainGlobals "part_of" = some (some (.ref f_part_of)))
    (hlpart_of : K.lookup f_part_of = some ⟨ocpart_of, odpart_of, .func (PySem.W.fnOf "part_of" "part_of" (defArgs (top 34)) (defBody (top 34)) (defScope (top 34)) .none kVpart_of dcpart_of pmpart_of anpart_of cvpart_of ctpart_of), slpart_of⟩)
    (hcpart_of : PySem.W.codeIn K cvpart_of "part_of" = true)
    (hkpart_of : PySem.W.keepIn K (.ref f_part_of) = true)
    (haparts_without : PySem.W.nsIn K mainGlobals "parts_without" = some (some (.ref f_parts_without)))
    (hlparts_without : K.lookup f_parts_without = some ⟨ocparts_without, odparts_without, .func (PySem.W.fnOf "parts_without" "parts_without" (defArgs (top 35)) (defBody (top 35)) (defScope (top 35)) .none kVparts_without dcparts_without pmparts_without anparts_without cvparts_without ctparts_without), slparts_without⟩)
    (hcparts_without : PySem.W.codeIn K cvparts_without "parts_without" = true)
    (hkparts_without : PySem.W.keepIn K (.ref f_parts_without) = true)
    (ha_law_bare : PySem.W.nsIn K mainGlobals "_law_bare" = some (some (.ref f__law_bare)))
    (hl_law_bare : K.lookup f__law_bare = some ⟨oc_law_bare, od_law_bare, .func (PySem.W.fnOf "_law_bare" "_law_bare" (defArgs (top 52)) (defBody (top 52)) (defScope (top 52)) .none kV_law_bare dc_law_bare pm_law_bare an_law_bare cv_law_bare ct_law_bare), sl_law_bare⟩)
    (hc_law_bare : PySem.W.codeIn K cv_law_bare "_law_bare" = true)
    (hk_law_bare : PySem.W.keepIn K (.ref f__law_bare) = true)
    (ha_law_meet : PySem.W.nsIn K mainGlobals "_law_meet" = some (some (.ref f__law_meet)))
    (hl_law_meet : K.lookup f__law_meet = some ⟨oc_law_meet, od_law_meet, .func (PySem.W.fnOf "_law_meet" "_law_meet" (defArgs (top 50)) (defBody (top 50)) (defScope (top 50)) .none kV_law_meet dc_law_meet pm_law_meet an_law_meet cv_law_meet ct_law_meet), sl_law_meet⟩)
    (hc_law_meet : PySem.W.codeIn K cv_law_meet "_law_meet" = true)
    (hk_law_meet : PySem.W.keepIn K (.ref f__law_meet) = true)
    (ha_law_shared : PySem.W.nsIn K mainGlobals "_law_shared" = some (some (.ref f__law_shared)))
    (hl_law_shared : K.lookup f__law_shared = some ⟨oc_law_shared, od_law_shared, .func (PySem.W.fnOf "_law_shared" "_law_shared" (defArgs (top 53)) (defBody (top 53)) (defScope (top 53)) .none kV_law_shared dc_law_shared pm_law_shared an_law_shared cv_law_shared ct_law_shared), sl_law_shared⟩)
    (hc_law_shared : PySem.W.codeIn K cv_law_shared "_law_shared" = true)
    (hk_law_shared : PySem.W.keepIn K (.ref f__law_shared) = true)
    (ha_law_left_over : PySem.W.nsIn K mainGlobals "_law_left_over" = some (some (.ref f__law_left_over)))
    (hl_law_left_over : K.lookup f__law_left_over = some ⟨oc_law_left_over, od_law_left_over, .func (PySem.W.fnOf "_law_left_over" "_law_left_over" (defArgs (top 54)) (defBody (top 54)) (defScope (top 54)) .none kV_law_left_over dc_law_left_over pm_law_left_over an_law_left_over cv_law_left_over ct_law_left_over), sl_law_left_over⟩)
    (hc_law_left_over : PySem.W.codeIn K cv_law_left_over "_law_left_over" = true)
    (hk_law_left_over : PySem.W.keepIn K (.ref f__law_left_over) = true)
    (ha_law_alike : PySem.W.nsIn K mainGlobals "_law_alike" = some (some (.ref f__law_alike)))
    (hl_law_alike : K.lookup f__law_alike = some ⟨oc_law_alike, od_law_alike, .func (PySem.W.fnOf "_law_alike" "_law_alike" (defArgs (top 51)) (defBody (top 51)) (defScope (top 51)) .none kV_law_alike dc_law_alike pm_law_alike an_law_alike cv_law_alike ct_law_alike), sl_law_alike⟩)
    (hc_law_alike : PySem.W.codeIn K cv_law_alike "_law_alike" = true)
    (hk_law_alike : PySem.W.keepIn K (.ref f__law_alike) = true)
    (ha_law_pair_right : PySem.W.nsIn K mainGlobals "_law_pair_right" = some (some (.ref f__law_pair_right)))
    (hl_law_pair_right : K.lookup f__law_pair_right = some ⟨oc_law_pair_right, od_law_pair_right, .func (PySem.W.fnOf "_law_pair_right" "_law_pair_right" (defArgs (top 56)) (defBody (top 56)) (defScope (top 56)) .none kV_law_pair_right dc_law_pair_right pm_law_pair_right an_law_pair_right (.ref c__law_pair_right) ct_law_pair_right), sl_law_pair_right⟩)
    (hc_law_pair_right : PySem.W.codeIn K (.ref c__law_pair_right) "_law_pair_right" = true)
    (hk_law_pair_right : PySem.W.keepIn K (.ref f__law_pair_right) = true)
    (ha_law_has_right : PySem.W.nsIn K mainGlobals "_law_has_right" = some (some (.ref f__law_has_right)))
    (hl_law_has_right : K.lookup f__law_has_right = some ⟨oc_law_has_right, od_law_has_right, .func (PySem.W.fnOf "_law_has_right" "_law_has_right" (defArgs (top 57)) (defBody (top 57)) (defScope (top 57)) .none kV_law_has_right dc_law_has_right pm_law_has_right an_law_has_right cv_law_has_right ct_law_has_right), sl_law_has_right⟩)
    (hc_law_has_right : PySem.W.codeIn K cv_law_has_right "_law_has_right" = true)
    (hk_law_has_right : PySem.W.keepIn K (.ref f__law_has_right) = true)
    (ha_law_cells_right : PySem.W.nsIn K mainGlobals "_law_cells_right" = some (some (.ref f__law_cells_right)))
    (hl_law_cells_right : K.lookup f__law_cells_right = some ⟨oc_law_cells_right, od_law_cells_right, .func (PySem.W.fnOf "_law_cells_right" "_law_cells_right" (defArgs (top 58)) (defBody (top 58)) (defScope (top 58)) .none kV_law_cells_right dc_law_cells_right pm_law_cells_right an_law_cells_right (.ref c__law_cells_right) ct_law_cells_right), sl_law_cells_right⟩)
    (hc_law_cells_right : PySem.W.codeIn K (.ref c__law_cells_right) "_law_cells_right" = true)
    (hk_law_cells_right : PySem.W.keepIn K (.ref f__law_cells_right) = true)
    (halaw : PySem.W.nsIn K mainGlobals "law" = some (some (.ref f_law)))
    (hllaw : K.lookup f_law = some ⟨oclaw, odlaw, .func (PySem.W.fnOf "law" "law" (defArgs (top 59)) (defBody (top 59)) (defScope (top 59)) .none kVlaw dclaw pmlaw anlaw cvlaw ctlaw), sllaw⟩)
    (hclaw : PySem.W.codeIn K cvlaw "law" = true)
    (hklaw : PySem.W.keepIn K (.ref f_law) = true)
    (ha_law_pen : PySem.W.nsIn K mainGlobals "_law_pen" = some (some (.ref f__law_pen)))
    (hl_law_pen : K.lookup f__law_pen = some ⟨oc_law_pen, od_law_pen, .func (PySem.W.fnOf "_law_pen" "_law_pen" (defArgs (top 37)) (defBody (top 37)) (defScope (top 37)) .none kV_law_pen dc_law_pen pm_law_pen an_law_pen cv_law_pen ct_law_pen), sl_law_pen⟩)
    (hc_law_pen : PySem.W.codeIn K cv_law_pen "_law_pen" = true)
    (hk_law_pen : PySem.W.keepIn K (.ref f__law_pen) = true)
    (hcl_law_in_order : K.lookup c__law_in_order = some ⟨cw_law_in_order, cx_law_in_order, .fields cy_law_in_order, cz_law_in_order⟩)
    (hcp_law_in_order : cy_law_in_order[11]? = some (.ref p__law_in_order))
    (hch_law_in_order : PySem.W.codeHdIn K c__law_in_order p__law_in_order = true)
    (hpt_law_in_order : h.get? p__law_in_order = some (PySem.W.tabObj #[]))
    (hpk_law_in_order : K.lookup p__law_in_order = none)
    (hcl_law_made_right : K.lookup c__law_made_right = some ⟨cw_law_made_right, cx_law_made_right, .fields cy_law_made_right, cz_law_made_right⟩)
    (hcp_law_made_right : cy_law_made_right[11]? = some (.ref p__law_made_right))
    (hch_law_made_right : PySem.W.codeHdIn K c__law_made_right p__law_made_right = true)
    (hpt_law_made_right : h.get? p__law_made_right = some (PySem.W.tabObj #[]))
    (hpk_law_made_right : K.lookup p__law_made_right = none)
    (hcl_law_pair_right : K.lookup c__law_pair_right = some ⟨cw_law_pair_right, cx_law_pair_right, .fields cy_law_pair_right, cz_law_pair_right⟩)
    (hcp_law_pair_right : cy_law_pair_right[11]? = some (.ref p__law_pair_right))
    (hch_law_pair_right : PySem.W.codeHdIn K c__law_pair_right p__law_pair_right = true)
    (hpt_law_pair_right : h.get? p__law_pair_right = some (PySem.W.tabObj #[]))
    (hpk_law_pair_right : K.lookup p__law_pair_right = none)
    (hcl_law_cells_right : K.lookup c__law_cells_right = some ⟨cw_law_cells_right, cx_law_cells_right, .fields cy_law_cells_right, cz_law_cells_right⟩)
    (hcp_law_cells_right : cy_law_cells_right[11]? = some (.ref p__law_cells_right))
    (hch_law_cells_right : PySem.W.codeHdIn K c__law_cells_right p__law_cells_right = true)
    (hpt_law_cells_right : h.get? p__law_cells_right = some (PySem.W.tabObj #[]))
    (hpk_law_cells_right : K.lookup p__law_cells_right = none)
    (hne_law_in_order_law_made_right : p__law_in_order ≠ p__law_made_right)
    (hne_law_in_order_law_pair_right : p__law_in_order ≠ p__law_pair_right)
    (hne_law_in_order_law_cells_right : p__law_in_order ≠ p__law_cells_right)
    (hne_law_made_right_law_pair_right : p__law_made_right ≠ p__law_pair_right)
    (hne_law_made_right_law_cells_right : p__law_made_right ≠ p__law_cells_right)
    (hne_law_pair_right_law_cells_right : p__law_pair_right ≠ p__law_cells_right)
    : LamX.LawAtS l w K (L2.CX l.prog w) 15 63 "_law_script" mg fa h := by
  have e := hfa.symm.trans (PySem.W.mg_of X G halaw)
  cases e
  have E_BadValue : PySem.EX.ErrTxt l.prog K mg "BadValue" "value" C_BadValue fI_BadValue :=
    { gC := PySem.W.mg_of X G ha_BadValue, cls := ⟨_, _, _, _, _, _, _, _, _, _, _, _, _, _, _, hx_BadValue, hv_BadValue⟩, sa := hsa_BadValue, ga := hga_BadValue, gg := hgg_BadValue, noN := hno_BadValue_value, iC := hi_BadValue, tC := ht_BadValue, kC := hk_BadValue, exC := hex_BadValue, veC := hve_BadValue, tyC := hty_BadValue, hdC := hhd_BadValue, sup := hsu_BadValue, slf := hse_BadValue, opq := hopq, gS := PySem.W.mg_none_of X G hn_super, htop := hhtop, fself := by decide +kernel, fdb := by decide +kernel, ks := rfl, kc := rfl,
      fn := ⟨_, _, _, _, _, _, _, _, _, _, _, _, _, _, _, _, _, _, _, _, _, _, _, _, _, _, _, _, _, _, _, hl_BadValue, hco_BadValue, hlc_BadValue, hvf_BadValue, hff_BadValue, hlx_BadValue, fun _ _ => rfl, fun env _ => ⟨_, rfl⟩⟩ }
  have E_OffGrid : PySem.EY.ErrTxt l.prog K mg "OffGrid" "row" "column" C_OffGrid fI_OffGrid :=
    { gC := PySem.W.mg_of X G ha_OffGrid, cls := ⟨_, _, _, _, _, _, _, _, _, _, _, _, _, _, _, hx_OffGrid, hv_OffGrid⟩, sa := hsa_OffGrid, ga := hga_OffGrid, gg := hgg_OffGrid, noN := hno_OffGrid_row, noM := hno_OffGrid_column, gself := by decide +kernel, gdb := by decide +kernel, gf := by decide +kernel, iC := hi_OffGrid, tC := ht_OffGrid, kC := hk_OffGrid, exC := hex_OffGrid, veC := hve_OffGrid, tyC := hty_OffGrid, hdC := hhd_OffGrid, sup := hsu_OffGrid, slf := hse_OffGrid, opq := hopq, gS := PySem.W.mg_none_of X G hn_super, htop := hhtop, fself := by decide +kernel, fdb := by decide +kernel, ks := rfl, kc := rfl,
      fn := ⟨_, _, _, _, _, _, _, _, _, _, _, _, _, _, _, _, _, _, _, _, _, _, _, _, _, _, _, _, _, _, _, _, _, _, _, _, _, hl_OffGrid, hco_OffGrid, hlc_OffGrid, hvf_OffGrid, hff_OffGrid, hlx_OffGrid, fun _ _ _ => rfl, fun env _ => ⟨_, rfl⟩⟩ }
  have E_TooMany : PySem.EX.ErrTxt l.prog K mg "TooMany" "most" C_TooMany fI_TooMany :=
    { gC := PySem.W.mg_of X G ha_TooMany, cls := ⟨_, _, _, _, _, _, _, _, _, _, _, _, _, _, _, hx_TooMany, hv_TooMany⟩, sa := hsa_TooMany, ga := hga_TooMany, gg := hgg_TooMany, noN := hno_TooMany_most, iC := hi_TooMany, tC := ht_TooMany, kC := hk_TooMany, exC := hex_TooMany, veC := hve_TooMany, tyC := hty_TooMany, hdC := hhd_TooMany, sup := hsu_TooMany, slf := hse_TooMany, opq := hopq, gS := PySem.W.mg_none_of X G hn_super, htop := hhtop, fself := by decide +kernel, fdb := by decide +kernel, ks := rfl, kc := rfl,
      fn := ⟨_, _, _, _, _, _, _, _, _, _, _, _, _, _, _, _, _, _, _, _, _, _, _, _, _, _, _, _, _, _, _, hl_TooMany, hco_TooMany, hlc_TooMany, hvf_TooMany, hff_TooMany, hlx_TooMany, fun _ _ => rfl, fun env _ => ⟨_, rfl⟩⟩ }
  let A : Ad := { Address := C_Address, Area := C_Area, BadValue := C_BadValue, NotAName := C_NotAName, OffGrid := C_OffGrid, TooMany := C_TooMany, i_BadValue := fI_BadValue, i_OffGrid := fI_OffGrid, i_TooMany := fI_TooMany, k_law_in_order := c__law_in_order, k_law_told := c__law_told, k_law_made_right := c__law_made_right, k_law_pair_right := c__law_pair_right, k_law_cells_right := c__law_cells_right, p_law_in_order := p__law_in_order, p_law_made_right := p__law_made_right, p_law_pair_right := p__law_pair_right, p_law_cells_right := p__law_cells_right }
  have Cl_Address : Cls K C_Address := ⟨hpg_Address, hhd_Address, hpo_Address, hsa_Address⟩
  have Cl_Area : Cls K C_Area := ⟨hpg_Area, hhd_Area, hpo_Area, hsa_Area⟩
  have FAddress_init := fun_mk (st := (inClass (top 22) 0)) hlAddress_init hcAddress_init hkAddress_init
  have MkAddress_init : Mk K C_Address f_Address_init := ⟨hmk_Address, hfiAddress_init, hisfAddress_init, hk_Address⟩
  have FDAddress_init : FunD K "__init__" "Address.__init__" (defArgs (inClass (top 22) 0)) (defBody (inClass (top 22) 0)) (defScope (inClass (top 22) 0)) [] [("fixed_row", (.bl false)), ("fixed_column", (.bl false)), ("sheet", .non)] f_Address_init _ := ⟨⟨_, _, _, _, _, _, _, _, _, _, rfl, hlAddress_init, hcAddress_init, .inl ⟨rfl, rfl⟩, .inr ⟨D_Address_init, rfl, fun q hq => by
    simp only [List.mem_cons, List.not_mem_nil, or_false] at hq
    rcases hq with rfl | rfl | rfl
    · exact ⟨_, hkwAddress_init_fixed_row, rfl⟩
    · exact ⟨_, hkwAddress_init_fixed_column, rfl⟩
    · exact ⟨_, hkwAddress_init_sheet, rfl⟩⟩⟩, hkAddress_init⟩
  have FArea_init := fun_mk (st := (inClass (top 30) 0)) hlArea_init hcArea_init hkArea_init
  have MkArea_init : Mk K C_Area f_Area_init := ⟨hmk_Area, hfiArea_init, hisfArea_init, hk_Area⟩
  have FDArea_init : FunD K "__init__" "Area.__init__" (defArgs (inClass (top 30) 0)) (defBody (inClass (top 30) 0)) (defScope (inClass (top 30) 0)) [] [("whole", .non)] f_Area_init _ := ⟨⟨_, _, _, _, _, _, _, _, _, _, rfl, hlArea_init, hcArea_init, .inl ⟨rfl, rfl⟩, .inr ⟨D_Area_init, rfl, fun q hq => by
    simp only [List.mem_cons, List.not_mem_nil, or_false] at hq
    rcases hq with rfl
    · exact ⟨_, hkwArea_init_whole, rfl⟩⟩⟩, hkArea_init⟩
  have FAddress_eq := fun_mk (st := (inClass (top 22) 1)) hlAddress_eq hcAddress_eq hkAddress_eq
  have BAddress_eq : Binds K _ ["self", "other"] [] := FAddress_eq.binds (ps := ["self", "other"]) fun _ _ _ _ _ _ us hl => match us, hl with | [_, _], _ => rfl
  have FArea_eq := fun_mk (st := (inClass (top 30) 1)) hlArea_eq hcArea_eq hkArea_eq
  have BArea_eq : Binds K _ ["self", "other"] [] := FArea_eq.binds (ps := ["self", "other"]) fun _ _ _ _ _ _ us hl => match us, hl with | [_, _], _ => rfl
  have FArea_common := fun_mk (st := (inClass (top 30) 3)) hlArea_common hcArea_common hkArea_common
  have BArea_common : Binds K _ ["self", "other"] [] := FArea_common.binds (ps := ["self", "other"]) fun _ _ _ _ _ _ us hl => match us, hl with | [_, _], _ => rfl
  have FArea_without := fun_mk (st := (inClass (top 30) 4)) hlArea_without hcArea_without hkArea_without
  have BArea_without : Binds K _ ["self", "other"] [] := FArea_without.binds (ps := ["self", "other"]) fun _ _ _ _ _ _ us hl => match us, hl with | [_, _], _ => rfl
  have FArea_has := fun_mk (st := (inClass (top 30) 2)) hlArea_has hcArea_has hkArea_has
  have BArea_has : Binds K _ ["self", "address"] [] := FArea_has.binds (ps := ["self", "address"]) fun _ _ _ _ _ _ us hl => match us, hl with | [_, _], _ => rfl
  have FArea_cells := fun_mk (st := (inClass (top 30) 5)) hlArea_cells hcArea_cells hkArea_cells
  have BArea_cells : Binds K _ ["self"] [] := FArea_cells.binds (ps := ["self"]) fun _ _ _ _ _ _ us hl => match us, hl with | [_], _ => rfl
  have F_law_draw := fun_mk (st := top 38) hl_law_draw hc_law_draw hk_law_draw
  have D_law_draw : DefT K mg "_law_draw" (top 38) ["_law_pen_here", "_law_span"] := ⟨f__law_draw, _, F_law_draw, PySem.W.mg_of X G ha_law_draw, hk_law_draw, F_law_draw.binds (ps := ["_law_pen_here", "_law_span"]) fun _ _ _ _ _ _ us hl => match us, hl with | [_, _], _ => rfl⟩
  have F_law_pick := fun_mk (st := top 39) hl_law_pick hc_law_pick hk_law_pick
  have D_law_pick : DefT K mg "_law_pick" (top 39) ["_law_pen_here", "_law_menu"] := ⟨f__law_pick, _, F_law_pick, PySem.W.mg_of X G ha_law_pick, hk_law_pick, F_law_pick.binds (ps := ["_law_pen_here", "_law_menu"]) fun _ _ _ _ _ _ us hl => match us, hl with | [_, _], _ => rfl⟩
  have F_law_corners := fun_mk (st := top 43) hl_law_corners hc_law_corners hk_law_corners
  have D_law_corners : DefT K mg "_law_corners" (top 43) ["_law_pen_here", "_law_base"] := ⟨f__law_corners, _, F_law_corners, PySem.W.mg_of X G ha_law_corners, hk_law_corners, F_law_corners.binds (ps := ["_law_pen_here", "_law_base"]) fun _ _ _ _ _ _ us hl => match us, hl with | [_, _], _ => rfl⟩
  have F_law_area := fun_mk (st := top 45) hl_law_area hc_law_area hk_law_area
  have D_law_area : DefT K mg "_law_area" (top 45) ["_law_pen_here", "_law_base", "_law_sheets"] := ⟨f__law_area, _, F_law_area, PySem.W.mg_of X G ha_law_area, hk_law_area, F_law_area.binds (ps := ["_law_pen_here", "_law_base", "_law_sheets"]) fun _ _ _ _ _ _ us hl => match us, hl with | [_, _, _], _ => rfl⟩
  have Fis_integer := fun_mk (st := top 8) hlis_integer hcis_integer hkis_integer
  have Dis_integer : DefT K mg "is_integer" (top 8) ["value"] := ⟨f_is_integer, _, Fis_integer, PySem.W.mg_of X G hais_integer, hkis_integer, Fis_integer.binds (ps := ["value"]) fun _ _ _ _ _ _ us hl => match us, hl with | [_], _ => rfl⟩
  have Fneed_integer := fun_mk (st := top 9) hlneed_integer hcneed_integer hkneed_integer
  have Dneed_integer : DefT K mg "need_integer" (top 9) ["value"] := ⟨f_need_integer, _, Fneed_integer, PySem.W.mg_of X G haneed_integer, hkneed_integer, Fneed_integer.binds (ps := ["value"]) fun _ _ _ _ _ _ us hl => match us, hl with | [_], _ => rfl⟩
  have Fneed_truth := fun_mk (st := top 10) hlneed_truth hcneed_truth hkneed_truth
  have Dneed_truth : DefT K mg "need_truth" (top 10) ["value"] := ⟨f_need_truth, _, Fneed_truth, PySem.W.mg_of X G haneed_truth, hkneed_truth, Fneed_truth.binds (ps := ["value"]) fun _ _ _ _ _ _ us hl => match us, hl with | [_], _ => rfl⟩
  have Fis_letter := fun_mk (st := top 13) hlis_letter hcis_letter hkis_letter
  have Dis_letter : DefT K mg "is_letter" (top 13) ["sign"] := ⟨f_is_letter, _, Fis_letter, PySem.W.mg_of X G hais_letter, hkis_letter, Fis_letter.binds (ps := ["sign"]) fun _ _ _ _ _ _ us hl => match us, hl with | [_], _ => rfl⟩
  have Fis_digit := fun_mk (st := top 12) hlis_digit hcis_digit hkis_digit
  have Dis_digit : DefT K mg "is_digit" (top 12) ["sign"] := ⟨f_is_digit, _, Fis_digit, PySem.W.mg_of X G hais_digit, hkis_digit, Fis_digit.binds (ps := ["sign"]) fun _ _ _ _ _ _ us hl => match us, hl with | [_], _ => rfl⟩
  have Fis_sheet_word := fun_mk (st := top 15) hlis_sheet_word hcis_sheet_word hkis_sheet_word
  have Dis_sheet_word : DefT K mg "is_sheet_word" (top 15) ["word"] := ⟨f_is_sheet_word, _, Fis_sheet_word, PySem.W.mg_of X G hais_sheet_word, hkis_sheet_word, Fis_sheet_word.binds (ps := ["word"]) fun _ _ _ _ _ _ us hl => match us, hl with | [_], _ => rfl⟩
  have Fneed_sheet_word := fun_mk (st := top 20) hlneed_sheet_word hcneed_sheet_word hkneed_sheet_word
  have Dneed_sheet_word : DefT K mg "need_sheet_word" (top 20) ["sheet"] := ⟨f_need_sheet_word, _, Fneed_sheet_word, PySem.W.mg_of X G haneed_sheet_word, hkneed_sheet_word, Fneed_sheet_word.binds (ps := ["sheet"]) fun _ _ _ _ _ _ us hl => match us, hl with | [_], _ => rfl⟩
  have Fis_on_grid := fun_mk (st := top 19) hlis_on_grid hcis_on_grid hkis_on_grid
  have Dis_on_grid : DefT K mg "is_on_grid" (top 19) ["row", "column"] := ⟨f_is_on_grid, _, Fis_on_grid, PySem.W.mg_of X G hais_on_grid, hkis_on_grid, Fis_on_grid.binds (ps := ["row", "column"]) fun _ _ _ _ _ _ us hl => match us, hl with | [_, _], _ => rfl⟩
  have Fneed_address := fun_mk (st := top 23) hlneed_address hcneed_address hkneed_address
  have Dneed_address : DefT K mg "need_address" (top 23) ["value"] := ⟨f_need_address, _, Fneed_address, PySem.W.mg_of X G haneed_address, hkneed_address, Fneed_address.binds (ps := ["value"]) fun _ _ _ _ _ _ us hl => match us, hl with | [_], _ => rfl⟩
  have Fin_order := fun_mk (st := top 27) hlin_order hcin_order hkin_order
  have Din_order : DefT K mg "in_order" (top 27) ["one", "other"] := ⟨f_in_order, _, Fin_order, PySem.W.mg_of X G hain_order, hkin_order, Fin_order.binds (ps := ["one", "other"]) fun _ _ _ _ _ _ us hl => match us, hl with | [_, _], _ => rfl⟩
  have Fnormal_rows := fun_mk (st := top 28) hlnormal_rows hcnormal_rows hknormal_rows
  have Dnormal_rows : DefT K mg "normal_rows" (top 28) ["first", "last", "whole"] := ⟨f_normal_rows, _, Fnormal_rows, PySem.W.mg_of X G hanormal_rows, hknormal_rows, Fnormal_rows.binds (ps := ["first", "last", "whole"]) fun _ _ _ _ _ _ us hl => match us, hl with | [_, _, _], _ => rfl⟩
  have Fnormal_columns := fun_mk (st := top 29) hlnormal_columns hcnormal_columns hknormal_columns
  have Dnormal_columns : DefT K mg "normal_columns" (top 29) ["first", "last", "whole"] := ⟨f_normal_columns, _, Fnormal_columns, PySem.W.mg_of X G hanormal_columns, hknormal_columns, Fnormal_columns.binds (ps := ["first", "last", "whole"]) fun _ _ _ _ _ _ us hl => match us, hl with | [_, _, _], _ => rfl⟩
  have Fsame_sheets := fun_mk (st := top 21) hlsame_sheets hcsame_sheets hksame_sheets
  have Dsame_sheets : DefT K mg "same_sheets" (top 21) ["one", "other"] := ⟨f_same_sheets, _, Fsame_sheets, PySem.W.mg_of X G hasame_sheets, hksame_sheets, Fsame_sheets.binds (ps := ["one", "other"]) fun _ _ _ _ _ _ us hl => match us, hl with | [_, _], _ => rfl⟩
  have D_law_in_order : DefC K mg "_law_in_order" (top 44) ["_law_pairs"] c__law_in_order := ⟨f__law_in_order, _, _, _, _, _, _, _, _, _, hl_law_in_order, hc_law_in_order, PySem.W.mg_of X G ha_law_in_order, hk_law_in_order, .all fun us hl => match us, hl with | [_], _ => rfl⟩
  have F_law_normal := fun_mk (st := top 46) hl_law_normal hc_law_normal hk_law_normal
  have D_law_normal : DefT K mg "_law_normal" (top 46) ["_law_area_here"] := ⟨f__law_normal, _, F_law_normal, PySem.W.mg_of X G ha_law_normal, hk_law_normal, F_law_normal.binds (ps := ["_law_area_here"]) fun _ _ _ _ _ _ us hl => match us, hl with | [_], _ => rfl⟩
  have F_law_is := fun_mk (st := top 42) hl_law_is hc_law_is hk_law_is
  have D_law_is : DefT K mg "_law_is" (top 42) ["_law_address", "_law_place"] := ⟨f__law_is, _, F_law_is, PySem.W.mg_of X G ha_law_is, hk_law_is, F_law_is.binds (ps := ["_law_address", "_law_place"]) fun _ _ _ _ _ _ us hl => match us, hl with | [_, _], _ => rfl⟩
  have F_law_corner := fun_mk (st := top 47) hl_law_corner hc_law_corner hk_law_corner
  have D_law_corner : DefT K mg "_law_corner" (top 47) ["_law_area_here", "_law_at"] := ⟨f__law_corner, _, F_law_corner, PySem.W.mg_of X G ha_law_corner, hk_law_corner, F_law_corner.binds (ps := ["_law_area_here", "_law_at"]) fun _ _ _ _ _ _ us hl => match us, hl with | [_, _], _ => rfl⟩
  have F_law_is_area := fun_mk (st := top 49) hl_law_is_area hc_law_is_area hk_law_is_area
  have D_law_is_area : DefT K mg "_law_is_area" (top 49) ["_law_found", "_law_area_here"] := ⟨f__law_is_area, _, F_law_is_area, PySem.W.mg_of X G ha_law_is_area, hk_law_is_area, F_law_is_area.binds (ps := ["_law_found", "_law_area_here"]) fun _ _ _ _ _ _ us hl => match us, hl with | [_, _], _ => rfl⟩
  have F_law_made := fun_mk (st := top 41) hl_law_made hc_law_made hk_law_made
  have D_law_made : DefT K mg "_law_made" (top 41) ["_law_place"] := ⟨f__law_made, _, F_law_made, PySem.W.mg_of X G ha_law_made, hk_law_made, F_law_made.binds (ps := ["_law_place"]) fun _ _ _ _ _ _ us hl => match us, hl with | [_], _ => rfl⟩
  have D_law_told : DefC K mg "_law_told" (top 40) ["_law_call"] c__law_told := ⟨f__law_told, _, _, _, _, _, _, _, _, _, hl_law_told, hc_law_told, PySem.W.mg_of X G ha_law_told, hk_law_told, .all fun us hl => match us, hl with | [_], _ => rfl⟩
  have F_law_area_made := fun_mk (st := top 48) hl_law_area_made hc_law_area_made hk_law_area_made
  have D_law_area_made : DefT K mg "_law_area_made" (top 48) ["_law_area_here"] := ⟨f__law_area_made, _, F_law_area_made, PySem.W.mg_of X G ha_law_area_made, hk_law_area_made, F_law_area_made.binds (ps := ["_law_area_here"]) fun _ _ _ _ _ _ us hl => match us, hl with | [_], _ => rfl⟩
  have D_law_made_right : DefC K mg "_law_made_right" (top 55) ["_law_pen_here", "_law_area_here"] c__law_made_right := ⟨f__law_made_right, _, _, _, _, _, _, _, _, _, hl_law_made_right, hc_law_made_right, PySem.W.mg_of X G ha_law_made_right, hk_law_made_right, .all fun us hl => match us, hl with | [_, _], _ => rfl⟩
  have Fneed_area := fun_mk (st := top 31) hlneed_area hcneed_area hkneed_area
  have Dneed_area : DefT K mg "need_area" (top 31) ["value"] := ⟨f_need_area, _, Fneed_area, PySem.W.mg_of X G haneed_area, hkneed_area, Fneed_area.binds (ps := ["value"]) fun _ _ _ _ _ _ us hl => match us, hl with | [_], _ => rfl⟩
  have Fplain_area := fun_mk (st := top 26) hlplain_area hcplain_area hkplain_area
  have Dplain_area : DefT K mg "plain_area" (top 26) ["top", "left", "bottom", "right", "sheet", "whole"] := ⟨f_plain_area, _, Fplain_area, PySem.W.mg_of X G haplain_area, hkplain_area, Fplain_area.binds (ps := ["top", "left", "bottom", "right", "sheet", "whole"]) fun _ _ _ _ _ _ us hl => match us, hl with | [_, _, _, _, _, _], _ => rfl⟩
  have Fmay_meet := fun_mk (st := top 32) hlmay_meet hcmay_meet hkmay_meet
  have Dmay_meet : DefT K mg "may_meet" (top 32) ["one", "other"] := ⟨f_may_meet, _, Fmay_meet, PySem.W.mg_of X G hamay_meet, hkmay_meet, Fmay_meet.binds (ps := ["one", "other"]) fun _ _ _ _ _ _ us hl => match us, hl with | [_, _], _ => rfl⟩
  have Fcommon_area := fun_mk (st := top 33) hlcommon_area hccommon_area hkcommon_area
  have Dcommon_area : DefT K mg "common_area" (top 33) ["one", "other"] := ⟨f_common_area, _, Fcommon_area, PySem.W.mg_of X G hacommon_area, hkcommon_area, Fcommon_area.binds (ps := ["one", "other"]) fun _ _ _ _ _ _ us hl => match us, hl with | [_, _], _ => rfl⟩
  have Fpart_of := fun_mk (st := top 34) hlpart_of hcpart_of hkpart_of
  have Dpart_of : DefT K mg "part_of" (top 34) ["area", "top", "left", "bottom", "right"] := ⟨f_part_of, _, Fpart_of, PySem.W.mg_of X G hapart_of, hkpart_of, Fpart_of.binds (ps := ["area", "top", "left", "bottom", "right"]) fun _ _ _ _ _ _ us hl => match us, hl with | [_, _, _, _, _], _ => rfl⟩
  have Fparts_without := fun_mk (st := top 35) hlparts_without hcparts_without hkparts_without
  have Dparts_without : DefT K mg "parts_without" (top 35) ["area", "hole"] := ⟨f_parts_without, _, Fparts_without, PySem.W.mg_of X G haparts_without, hkparts_without, Fparts_without.binds (ps := ["area", "hole"]) fun _ _ _ _ _ _ us hl => match us, hl with | [_, _], _ => rfl⟩
  have F_law_bare := fun_mk (st := top 52) hl_law_bare hc_law_bare hk_law_bare
  have D_law_bare : DefT K mg "_law_bare" (top 52) ["_law_top", "_law_left", "_law_bottom", "_law_right", "_law_whole", "_law_sheet"] := ⟨f__law_bare, _, F_law_bare, PySem.W.mg_of X G ha_law_bare, hk_law_bare, F_law_bare.binds (ps := ["_law_top", "_law_left", "_law_bottom", "_law_right", "_law_whole", "_law_sheet"]) fun _ _ _ _ _ _ us hl => match us, hl with | [_, _, _, _, _, _], _ => rfl⟩
  have F_law_meet := fun_mk (st := top 50) hl_law_meet hc_law_meet hk_law_meet
  have D_law_meet : DefT K mg "_law_meet" (top 50) ["_law_one", "_law_other"] := ⟨f__law_meet, _, F_law_meet, PySem.W.mg_of X G ha_law_meet, hk_law_meet, F_law_meet.binds (ps := ["_law_one", "_law_other"]) fun _ _ _ _ _ _ us hl => match us, hl with | [_, _], _ => rfl⟩
  have F_law_shared := fun_mk (st := top 53) hl_law_shared hc_law_shared hk_law_shared
  have D_law_shared : DefT K mg "_law_shared" (top 53) ["_law_one", "_law_other"] := ⟨f__law_shared, _, F_law_shared, PySem.W.mg_of X G ha_law_shared, hk_law_shared, F_law_shared.binds (ps := ["_law_one", "_law_other"]) fun _ _ _ _ _ _ us hl => match us, hl with | [_, _], _ => rfl⟩
  have F_law_left_over := fun_mk (st := top 54) hl_law_left_over hc_law_left_over hk_law_left_over
  have D_law_left_over : DefT K mg "_law_left_over" (top 54) ["_law_one", "_law_hole"] := ⟨f__law_left_over, _, F_law_left_over, PySem.W.mg_of X G ha_law_left_over, hk_law_left_over, F_law_left_over.binds (ps := ["_law_one", "_law_hole"]) fun _ _ _ _ _ _ us hl => match us, hl with | [_, _], _ => rfl⟩
  have F_law_alike := fun_mk (st := top 51) hl_law_alike hc_law_alike hk_law_alike
  have D_law_alike : DefT K mg "_law_alike" (top 51) ["_law_one", "_law_other"] := ⟨f__law_alike, _, F_law_alike, PySem.W.mg_of X G ha_law_alike, hk_law_alike, F_law_alike.binds (ps := ["_law_one", "_law_other"]) fun _ _ _ _ _ _ us hl => match us, hl with | [_, _], _ => rfl⟩
  have D_law_pair_right : DefC K mg "_law_pair_right" (top 56) ["_law_pen_here", "_law_one", "_law_other"] c__law_pair_right := ⟨f__law_pair_right, _, _, _, _, _, _, _, _, _, hl_law_pair_right, hc_law_pair_right, PySem.W.mg_of X G ha_law_pair_right, hk_law_pair_right, .all fun us hl => match us, hl with | [_, _, _], _ => rfl⟩
  have F_law_has_right := fun_mk (st := top 57) hl_law_has_right hc_law_has_right hk_law_has_right
  have D_law_has_right : DefT K mg "_law_has_right" (top 57) ["_law_pen_here", "_law_area_here", "_law_base"] := ⟨f__law_has_right, _, F_law_has_right, PySem.W.mg_of X G ha_law_has_right, hk_law_has_right, F_law_has_right.binds (ps := ["_law_pen_here", "_law_area_here", "_law_base"]) fun _ _ _ _ _ _ us hl => match us, hl with | [_, _, _], _ => rfl⟩
  have D_law_cells_right : DefC K mg "_law_cells_right" (top 58) ["_law_pen_here", "_law_area_here"] c__law_cells_right := ⟨f__law_cells_right, _, _, _, _, _, _, _, _, _, hl_law_cells_right, hc_law_cells_right, PySem.W.mg_of X G ha_law_cells_right, hk_law_cells_right, .all fun us hl => match us, hl with | [_, _], _ => rfl⟩
  have Flaw := fun_mk (st := top 59) hllaw hclaw hklaw
  have F_law_pen := fun_mk (st := top 37) hl_law_pen hc_law_pen hk_law_pen
  have B_law_pen : Binds K _ ["_law_script"] [] := F_law_pen.binds (ps := ["_law_script"]) fun _ _ _ _ _ _ us hl => match us, hl with | [_], _ => rfl
  have T : Txt l.prog K mg A :=
    { n_all := PySem.W.mg_none_of X G hn_all,
      n_bool := PySem.W.mg_none_of X G hn_bool,
      n_int := PySem.W.mg_none_of X G hn_int,
      n_isinstance := PySem.W.mg_none_of X G hn_isinstance,
      n_len := PySem.W.mg_none_of X G hn_len,
      n_max := PySem.W.mg_none_of X G hn_max,
      n_min := PySem.W.mg_none_of X G hn_min,
      n_range := PySem.W.mg_none_of X G hn_range,
      n_sorted := PySem.W.mg_none_of X G hn_sorted,
      n_str := PySem.W.mg_none_of X G hn_str,
      n_tuple := PySem.W.mg_none_of X G hn_tuple,
      g_MOST_CELLS := ⟨_, PySem.W.mg_of X G hg_MOST_CELLS, ⟨tk_MOST_CELLS, by rw [he_MOST_CELLS]⟩⟩,
      g_MOST_COLUMNS := ⟨_, PySem.W.mg_of X G hg_MOST_COLUMNS, ⟨tk_MOST_COLUMNS, by rw [he_MOST_COLUMNS]⟩⟩,
      g_MOST_ROWS := ⟨_, PySem.W.mg_of X G hg_MOST_ROWS, ⟨tk_MOST_ROWS, by rw [he_MOST_ROWS]⟩⟩,
      c_Address := PySem.W.mg_of X G ha_Address,
      c_Area := PySem.W.mg_of X G ha_Area,
      c_BadValue := PySem.W.mg_of X G ha_BadValue,
      c_NotAName := PySem.W.mg_of X G ha_NotAName,
      c_OffGrid := PySem.W.mg_of X G ha_OffGrid,
      c_TooMany := PySem.W.mg_of X G ha_TooMany,
      e_BadValue := E_BadValue,
      e_OffGrid := E_OffGrid,
      e_TooMany := E_TooMany,
      fl_column := fun C hC => by
        simp only [List.mem_cons, List.not_mem_nil, or_false] at hC
        rcases hC with rfl
        · exact ⟨Cl_Address, hno_Address_column⟩,
      fl_first := fun C hC => by
        simp only [List.mem_cons, List.not_mem_nil, or_false] at hC
        rcases hC with rfl
        · exact ⟨Cl_Area, hno_Area_first⟩,
      fl_fixed_column := fun C hC => by
        simp only [List.mem_cons, List.not_mem_nil, or_false] at hC
        rcases hC with rfl
        · exact ⟨Cl_Address, hno_Address_fixed_column⟩,
      fl_fixed_row := fun C hC => by
        simp only [List.mem_cons, List.not_mem_nil, or_false] at hC
        rcases hC with rfl
        · exact ⟨Cl_Address, hno_Address_fixed_row⟩,
      fl_height := fun C hC => by
        simp only [List.mem_cons, List.not_mem_nil, or_false] at hC
        rcases hC with rfl
        · exact ⟨Cl_Area, hno_Area_height⟩,
      fl_last := fun C hC => by
        simp only [List.mem_cons, List.not_mem_nil, or_false] at hC
        rcases hC with rfl
        · exact ⟨Cl_Area, hno_Area_last⟩,
      fl_row := fun C hC => by
        simp only [List.mem_cons, List.not_mem_nil, or_false] at hC
        rcases hC with rfl
        · exact ⟨Cl_Address, hno_Address_row⟩,
      fl_sheet := fun C hC => by
        simp only [List.mem_cons, List.not_mem_nil, or_false] at hC
        rcases hC with rfl | rfl
        · exact ⟨Cl_Address, hno_Address_sheet⟩
        · exact ⟨Cl_Area, hno_Area_sheet⟩,
      fl_whole := fun C hC => by
        simp only [List.mem_cons, List.not_mem_nil, or_false] at hC
        rcases hC with rfl
        · exact ⟨Cl_Area, hno_Area_whole⟩,
      fl_width := fun C hC => by
        simp only [List.mem_cons, List.not_mem_nil, or_false] at hC
        rcases hC with rfl
        · exact ⟨Cl_Area, hno_Area_width⟩,
      xf_BadValue := ⟨hga_BadValue, hgg_BadValue, hex_BadValue, hhd_BadValue⟩,
      xf_NotAName := ⟨hga_NotAName, hgg_NotAName, hex_NotAName, hhd_NotAName⟩,
      xf_OffGrid := ⟨hga_OffGrid, hgg_OffGrid, hex_OffGrid, hhd_OffGrid⟩,
      xf_TooMany := ⟨hga_TooMany, hgg_TooMany, hex_TooMany, hhd_TooMany⟩,
      no_BadValue_value := hno_BadValue_value,
      no_NotAName_name := hno_NotAName_name,
      no_OffGrid_column := hno_OffGrid_column,
      no_OffGrid_row := hno_OffGrid_row,
      no_TooMany_most := hno_TooMany_most,
      i_A := ⟨Cl_Address, hha_Address, hhn, hht, hhm_Address⟩,
      i_R := ⟨Cl_Area, hha_Area, hhn, hht, hhm_Area⟩,
      k_A := hkt_Address_Address,
      k_R := hkt_Area_Area,
      k_NoneType := hkt_NoneType_Address,
      r_NoneType := hkt_NoneType_Area,
      k_bool := hkt_bool_Address,
      r_bool := hkt_bool_Area,
      k_int := hkt_int_Address,
      r_int := hkt_int_Area,
      k_str := hkt_str_Address,
      r_str := hkt_str_Area,
      k_list := hkt_list_Address,
      r_list := hkt_list_Area,
      k_tuple := hkt_tuple_Address,
      r_tuple := hkt_tuple_Area,
      f_A := hnf_Address_Address,
      f_R := hnf_Area_Area,
      m_BB := PySem.W.exm_ref hex_BadValue hhd_BadValue hty_BadValue hs_BadValue_BadValue,
      m_TB := PySem.W.exm_ref hex_BadValue hhd_BadValue hty_BadValue hs_TooMany_BadValue,
      m_TN := PySem.W.exm_ref hex_NotAName hhd_NotAName hty_NotAName hs_TooMany_NotAName,
      m_TO := PySem.W.exm_ref hex_OffGrid hhd_OffGrid hty_OffGrid hs_TooMany_OffGrid,
      m_TT := PySem.W.exm_ref hex_TooMany hhd_TooMany hty_TooMany hs_TooMany_TooMany,
      d_law_told := D_law_told }
  refine ⟨PySem.W.fnOf "law" "law" (defArgs (top 59)) (defBody (top 59)) (defScope (top 59)) .none kVlaw dclaw pmlaw anlaw cvlaw ctlaw, [(c__law_in_order, p__law_in_order), (c__law_made_right, p__law_made_right), (c__law_pair_right, p__law_pair_right), (c__law_cells_right, p__law_cells_right)], spLaw K [(p__law_in_order, (("_law_in_order" : Str) ++ ".<locals>." ++ "<lambda>")), (p__law_made_right, (("_law_made_right" : Str) ++ ".<locals>." ++ "<lambda>")), (p__law_pair_right, (("_law_pair_right" : Str) ++ ".<locals>." ++ "<lambda>")), (p__law_cells_right, (("_law_cells_right" : Str) ++ ".<locals>." ++ "<lambda>"))], fun p hp => ?_, fun p hp => ?_, fun p hp => ?_, fun s u => .of_eq rfl, fun H a ns hl _ hH hS => ⟨a, ns, rfl, hl, fun p hp => ?_, hS, fun _ => rfl⟩, fun base KB GB hTB => ?_⟩
  · simp only [List.mem_cons, List.not_mem_nil, or_false] at hp
    rcases hp with rfl | rfl | rfl | rfl
    · exact hpt_law_in_order
    · exact hpt_law_made_right
    · exact hpt_law_pair_right
    · exact hpt_law_cells_right
  · simp only [List.mem_cons, List.not_mem_nil, or_false] at hp
    rcases hp with rfl | rfl | rfl | rfl
    · exact hpk_law_in_order
    · exact hpk_law_made_right
    · exact hpk_law_pair_right
    · exact hpk_law_cells_right
  · simp only [List.mem_cons, List.not_mem_nil, or_false] at hp
    rcases hp with rfl | rfl | rfl | rfl
    · exact PySem.W.codeHd_of_K X hch_law_in_order
    · exact PySem.W.codeHd_of_K X hch_law_made_right
    · exact PySem.W.codeHd_of_K X hch_law_pair_right
    · exact PySem.W.codeHd_of_K X hch_law_cells_right
  · simp only [List.mem_cons, List.not_mem_nil, or_false] at hp
    rcases hp with rfl | rfl | rfl | rfl
    · exact hH (c__law_in_order, p__law_in_order) (by simp)
    · exact hH (c__law_made_right, p__law_made_right) (by simp)
    · exact hH (c__law_pair_right, p__law_pair_right) (by simp)
    · exact hH (c__law_cells_right, p__law_cells_right) (by simp)
  have K__law_draw : ∀ (pn : Addr) (cs : List Int), CalD l.prog w K mg base (MM K [(p__law_in_order, (("_law_in_order" : Str) ++ ".<locals>." ++ "<lambda>")), (p__law_made_right, (("_law_made_right" : Str) ++ ".<locals>." ++ "<lambda>")), (p__law_pair_right, (("_law_pair_right" : Str) ++ ".<locals>." ++ "<lambda>")), (p__law_cells_right, (("_law_cells_right" : Str) ++ ".<locals>." ++ "<lambda>"))] pn cs) 2 "_law_draw" ["_law_pen_here", "_law_span"] (s__law_draw A) := fun pn cs => cal__law_draw T D_law_draw 
  have K__law_pick : ∀ (pn : Addr) (cs : List Int), CalD l.prog w K mg base (MM K [(p__law_in_order, (("_law_in_order" : Str) ++ ".<locals>." ++ "<lambda>")), (p__law_made_right, (("_law_made_right" : Str) ++ ".<locals>." ++ "<lambda>")), (p__law_pair_right, (("_law_pair_right" : Str) ++ ".<locals>." ++ "<lambda>")), (p__law_cells_right, (("_law_cells_right" : Str) ++ ".<locals>." ++ "<lambda>"))] pn cs) 3 "_law_pick" ["_law_pen_here", "_law_menu"] (s__law_pick A) := fun pn cs => cal__law_pick T D_law_pick (K__law_draw pn cs)
  have K__law_corners : ∀ (pn : Addr) (cs : List Int), CalD l.prog w K mg base (MM K [(p__law_in_order, (("_law_in_order" : Str) ++ ".<locals>." ++ "<lambda>")), (p__law_made_right, (("_law_made_right" : Str) ++ ".<locals>." ++ "<lambda>")), (p__law_pair_right, (("_law_pair_right" : Str) ++ ".<locals>." ++ "<lambda>")), (p__law_cells_right, (("_law_cells_right" : Str) ++ ".<locals>." ++ "<lambda>"))] pn cs) 3 "_law_corners" ["_law_pen_here", "_law_base"] (s__law_corners A) := fun pn cs => cal__law_corners T D_law_corners (K__law_draw pn cs)
  have K__law_area : ∀ (pn : Addr) (cs : List Int), CalD l.prog w K mg base (MM K [(p__law_in_order, (("_law_in_order" : Str) ++ ".<locals>." ++ "<lambda>")), (p__law_made_right, (("_law_made_right" : Str) ++ ".<locals>." ++ "<lambda>")), (p__law_pair_right, (("_law_pair_right" : Str) ++ ".<locals>." ++ "<lambda>")), (p__law_cells_right, (("_law_cells_right" : Str) ++ ".<locals>." ++ "<lambda>"))] pn cs) 4 "_law_area" ["_law_pen_here", "_law_base", "_law_sheets"] (s__law_area A) := fun pn cs => cal__law_area T D_law_area (K__law_corners pn cs) (K__law_pick pn cs)
  have K_is_integer : ∀ (pn : Addr) (cs : List Int), CalD l.prog w K mg base (MM K [(p__law_in_order, (("_law_in_order" : Str) ++ ".<locals>." ++ "<lambda>")), (p__law_made_right, (("_law_made_right" : Str) ++ ".<locals>." ++ "<lambda>")), (p__law_pair_right, (("_law_pair_right" : Str) ++ ".<locals>." ++ "<lambda>")), (p__law_cells_right, (("_law_cells_right" : Str) ++ ".<locals>." ++ "<lambda>"))] pn cs) 2 "is_integer" ["value"] (s_is_integer A) := fun pn cs => cal_is_integer T Dis_integer 
  have K_need_integer : ∀ (pn : Addr) (cs : List Int), CalD l.prog w K mg base (MM K [(p__law_in_order, (("_law_in_order" : Str) ++ ".<locals>." ++ "<lambda>")), (p__law_made_right, (("_law_made_right" : Str) ++ ".<locals>." ++ "<lambda>")), (p__law_pair_right, (("_law_pair_right" : Str) ++ ".<locals>." ++ "<lambda>")), (p__law_cells_right, (("_law_cells_right" : Str) ++ ".<locals>." ++ "<lambda>"))] pn cs) 3 "need_integer" ["value"] (s_need_integer A) := fun pn cs => cal_need_integer T Dneed_integer (K_is_integer pn cs)
  have K_need_truth : ∀ (pn : Addr) (cs : List Int), CalD l.prog w K mg base (MM K [(p__law_in_order, (("_law_in_order" : Str) ++ ".<locals>." ++ "<lambda>")), (p__law_made_right, (("_law_made_right" : Str) ++ ".<locals>." ++ "<lambda>")), (p__law_pair_right, (("_law_pair_right" : Str) ++ ".<locals>." ++ "<lambda>")), (p__law_cells_right, (("_law_cells_right" : Str) ++ ".<locals>." ++ "<lambda>"))] pn cs) 2 "need_truth" ["value"] (s_need_truth A) := fun pn cs => cal_need_truth T Dneed_truth 
  have K_is_letter : ∀ (pn : Addr) (cs : List Int), CalD l.prog w K mg base (MM K [(p__law_in_order, (("_law_in_order" : Str) ++ ".<locals>." ++ "<lambda>")), (p__law_made_right, (("_law_made_right" : Str) ++ ".<locals>." ++ "<lambda>")), (p__law_pair_right, (("_law_pair_right" : Str) ++ ".<locals>." ++ "<lambda>")), (p__law_cells_right, (("_law_cells_right" : Str) ++ ".<locals>." ++ "<lambda>"))] pn cs) 2 "is_letter" ["sign"] (s_is_letter A) := fun pn cs => cal_is_letter T Dis_letter 
  have K_is_digit : ∀ (pn : Addr) (cs : List Int), CalD l.prog w K mg base (MM K [(p__law_in_order, (("_law_in_order" : Str) ++ ".<locals>." ++ "<lambda>")), (p__law_made_right, (("_law_made_right" : Str) ++ ".<locals>." ++ "<lambda>")), (p__law_pair_right, (("_law_pair_right" : Str) ++ ".<locals>." ++ "<lambda>")), (p__law_cells_right, (("_law_cells_right" : Str) ++ ".<locals>." ++ "<lambda>"))] pn cs) 2 "is_digit" ["sign"] (s_is_digit A) := fun pn cs => cal_is_digit T Dis_digit 
  have K_is_sheet_word : ∀ (pn : Addr) (cs : List Int), CalD l.prog w K mg base (MM K [(p__law_in_order, (("_law_in_order" : Str) ++ ".<locals>." ++ "<lambda>")), (p__law_made_right, (("_law_made_right" : Str) ++ ".<locals>." ++ "<lambda>")), (p__law_pair_right, (("_law_pair_right" : Str) ++ ".<locals>." ++ "<lambda>")), (p__law_cells_right, (("_law_cells_right" : Str) ++ ".<locals>." ++ "<lambda>"))] pn cs) 3 "is_sheet_word" ["word"] (s_is_sheet_word A) := fun pn cs => cal_is_sheet_word T Dis_sheet_word (K_is_digit pn cs) (K_is_letter pn cs)
  have K_need_sheet_word : ∀ (pn : Addr) (cs : List Int), CalD l.prog w K mg base (MM K [(p__law_in_order, (("_law_in_order" : Str) ++ ".<locals>." ++ "<lambda>")), (p__law_made_right, (("_law_made_right" : Str) ++ ".<locals>." ++ "<lambda>")), (p__law_pair_right, (("_law_pair_right" : Str) ++ ".<locals>." ++ "<lambda>")), (p__law_cells_right, (("_law_cells_right" : Str) ++ ".<locals>." ++ "<lambda>"))] pn cs) 4 "need_sheet_word" ["sheet"] (s_need_sheet_word A) := fun pn cs => cal_need_sheet_word T Dneed_sheet_word (K_is_sheet_word pn cs)
  have K_is_on_grid : ∀ (pn : Addr) (cs : List Int), CalD l.prog w K mg base (MM K [(p__law_in_order, (("_law_in_order" : Str) ++ ".<locals>." ++ "<lambda>")), (p__law_made_right, (("_law_made_right" : Str) ++ ".<locals>." ++ "<lambda>")), (p__law_pair_right, (("_law_pair_right" : Str) ++ ".<locals>." ++ "<lambda>")), (p__law_cells_right, (("_law_cells_right" : Str) ++ ".<locals>." ++ "<lambda>"))] pn cs) 2 "is_on_grid" ["row", "column"] (s_is_on_grid A) := fun pn cs => cal_is_on_grid T Dis_on_grid 
  have K_Address_new0 : ∀ (pn : Addr) (cs : List Int), NewD l.prog w K mg base (MM K [(p__law_in_order, (("_law_in_order" : Str) ++ ".<locals>." ++ "<lambda>")), (p__law_made_right, (("_law_made_right" : Str) ++ ".<locals>." ++ "<lambda>")), (p__law_pair_right, (("_law_pair_right" : Str) ++ ".<locals>." ++ "<lambda>")), (p__law_cells_right, (("_law_cells_right" : Str) ++ ".<locals>." ++ "<lambda>"))] pn cs) 5 "Address" 2 ["fixed_row", "fixed_column", "sheet"] g_Address_new0 (s_Address A) := fun pn cs => cal_Address_new0 T FAddress_init FDAddress_init MkAddress_init (K_is_on_grid pn cs) (K_need_integer pn cs) (K_need_sheet_word pn cs) (K_need_truth pn cs)
  have K_Address_new2 : ∀ (pn : Addr) (cs : List Int), NewD l.prog w K mg base (MM K [(p__law_in_order, (("_law_in_order" : Str) ++ ".<locals>." ++ "<lambda>")), (p__law_made_right, (("_law_made_right" : Str) ++ ".<locals>." ++ "<lambda>")), (p__law_pair_right, (("_law_pair_right" : Str) ++ ".<locals>." ++ "<lambda>")), (p__law_cells_right, (("_law_cells_right" : Str) ++ ".<locals>." ++ "<lambda>"))] pn cs) 5 "Address" 2 ["sheet"] g_Address_new2 (s_Address A) := fun pn cs => cal_Address_new2 T FAddress_init FDAddress_init MkAddress_init (K_is_on_grid pn cs) (K_need_integer pn cs) (K_need_sheet_word pn cs) (K_need_truth pn cs)
  have K_need_address : ∀ (pn : Addr) (cs : List Int), CalD l.prog w K mg base (MM K [(p__law_in_order, (("_law_in_order" : Str) ++ ".<locals>." ++ "<lambda>")), (p__law_made_right, (("_law_made_right" : Str) ++ ".<locals>." ++ "<lambda>")), (p__law_pair_right, (("_law_pair_right" : Str) ++ ".<locals>." ++ "<lambda>")), (p__law_cells_right, (("_law_cells_right" : Str) ++ ".<locals>." ++ "<lambda>"))] pn cs) 2 "need_address" ["value"] (s_need_address A) := fun pn cs => cal_need_address T Dneed_address 
  have K_in_order : ∀ (pn : Addr) (cs : List Int), CalD l.prog w K mg base (MM K [(p__law_in_order, (("_law_in_order" : Str) ++ ".<locals>." ++ "<lambda>")), (p__law_made_right, (("_law_made_right" : Str) ++ ".<locals>." ++ "<lambda>")), (p__law_pair_right, (("_law_pair_right" : Str) ++ ".<locals>." ++ "<lambda>")), (p__law_cells_right, (("_law_cells_right" : Str) ++ ".<locals>." ++ "<lambda>"))] pn cs) 2 "in_order" ["one", "other"] (s_in_order A) := fun pn cs => cal_in_order T Din_order 
  have K_normal_rows : ∀ (pn : Addr) (cs : List Int), CalD l.prog w K mg base (MM K [(p__law_in_order, (("_law_in_order" : Str) ++ ".<locals>." ++ "<lambda>")), (p__law_made_right, (("_law_made_right" : Str) ++ ".<locals>." ++ "<lambda>")), (p__law_pair_right, (("_law_pair_right" : Str) ++ ".<locals>." ++ "<lambda>")), (p__law_cells_right, (("_law_cells_right" : Str) ++ ".<locals>." ++ "<lambda>"))] pn cs) 3 "normal_rows" ["first", "last", "whole"] (s_normal_rows A) := fun pn cs => cal_normal_rows T Dnormal_rows (K_in_order pn cs)
  have K_normal_columns : ∀ (pn : Addr) (cs : List Int), CalD l.prog w K mg base (MM K [(p__law_in_order, (("_law_in_order" : Str) ++ ".<locals>." ++ "<lambda>")), (p__law_made_right, (("_law_made_right" : Str) ++ ".<locals>." ++ "<lambda>")), (p__law_pair_right, (("_law_pair_right" : Str) ++ ".<locals>." ++ "<lambda>")), (p__law_cells_right, (("_law_cells_right" : Str) ++ ".<locals>." ++ "<lambda>"))] pn cs) 3 "normal_columns" ["first", "last", "whole"] (s_normal_columns A) := fun pn cs => cal_normal_columns T Dnormal_columns (K_in_order pn cs)
  have K_same_sheets : ∀ (pn : Addr) (cs : List Int), CalD l.prog w K mg base (MM K [(p__law_in_order, (("_law_in_order" : Str) ++ ".<locals>." ++ "<lambda>")), (p__law_made_right, (("_law_made_right" : Str) ++ ".<locals>." ++ "<lambda>")), (p__law_pair_right, (("_law_pair_right" : Str) ++ ".<locals>." ++ "<lambda>")), (p__law_cells_right, (("_law_cells_right" : Str) ++ ".<locals>." ++ "<lambda>"))] pn cs) 2 "same_sheets" ["one", "other"] (s_same_sheets A) := fun pn cs => cal_same_sheets T Dsame_sheets 
  have K_Area_new1 : ∀ (pn : Addr) (cs : List Int), NewD l.prog w K mg base (MM K [(p__law_in_order, (("_law_in_order" : Str) ++ ".<locals>." ++ "<lambda>")), (p__law_made_right, (("_law_made_right" : Str) ++ ".<locals>." ++ "<lambda>")), (p__law_pair_right, (("_law_pair_right" : Str) ++ ".<locals>." ++ "<lambda>")), (p__law_cells_right, (("_law_cells_right" : Str) ++ ".<locals>." ++ "<lambda>"))] pn cs) 7 "Area" 2 ["whole"] g_Area_new1 (s_Area A) := fun pn cs => cal_Area_new1 T FArea_init FDArea_init MkArea_init (K_Address_new0 pn cs) (K_need_address pn cs) (K_normal_columns pn cs) (K_normal_rows pn cs) (K_same_sheets pn cs)
  have TU_law_in_order : ∀ p ∈ ([(p__law_in_order, (("_law_in_order" : Str) ++ ".<locals>." ++ "<lambda>")), (p__law_made_right, (("_law_made_right" : Str) ++ ".<locals>." ++ "<lambda>")), (p__law_pair_right, (("_law_pair_right" : Str) ++ ".<locals>." ++ "<lambda>")), (p__law_cells_right, (("_law_cells_right" : Str) ++ ".<locals>." ++ "<lambda>"))] : List (Addr × Str)), p.1 = p__law_in_order → p.2 = (("_law_in_order" : Str) ++ ".<locals>." ++ "<lambda>") := fun p hp e => by
      simp only [List.mem_cons, List.not_mem_nil, or_false] at hp
      rcases hp with rfl | rfl | rfl | rfl
      · rfl
      · exact absurd e.symm hne_law_in_order_law_made_right
      · exact absurd e.symm hne_law_in_order_law_pair_right
      · exact absurd e.symm hne_law_in_order_law_cells_right
  have K__law_in_order : ∀ (pn : Addr) (cs : List Int), CalD l.prog w K mg base (MM K [(p__law_in_order, (("_law_in_order" : Str) ++ ".<locals>." ++ "<lambda>")), (p__law_made_right, (("_law_made_right" : Str) ++ ".<locals>." ++ "<lambda>")), (p__law_pair_right, (("_law_pair_right" : Str) ++ ".<locals>." ++ "<lambda>")), (p__law_cells_right, (("_law_cells_right" : Str) ++ ".<locals>." ++ "<lambda>"))] pn cs) 4 "_law_in_order" ["_law_pairs"] (s__law_in_order A) := fun pn cs => cal__law_in_order T D_law_in_order  (hTB (c__law_in_order, p__law_in_order) List.mem_cons_self) List.mem_cons_self TU_law_in_order
  have K__law_normal : ∀ (pn : Addr) (cs : List Int), CalD l.prog w K mg base (MM K [(p__law_in_order, (("_law_in_order" : Str) ++ ".<locals>." ++ "<lambda>")), (p__law_made_right, (("_law_made_right" : Str) ++ ".<locals>." ++ "<lambda>")), (p__law_pair_right, (("_law_pair_right" : Str) ++ ".<locals>." ++ "<lambda>")), (p__law_cells_right, (("_law_cells_right" : Str) ++ ".<locals>." ++ "<lambda>"))] pn cs) 5 "_law_normal" ["_law_area_here"] (s__law_normal A) := fun pn cs => cal__law_normal T D_law_normal (K__law_in_order pn cs)
  have K__law_is : ∀ (pn : Addr) (cs : List Int), CalD l.prog w K mg base (MM K [(p__law_in_order, (("_law_in_order" : Str) ++ ".<locals>." ++ "<lambda>")), (p__law_made_right, (("_law_made_right" : Str) ++ ".<locals>." ++ "<lambda>")), (p__law_pair_right, (("_law_pair_right" : Str) ++ ".<locals>." ++ "<lambda>")), (p__law_cells_right, (("_law_cells_right" : Str) ++ ".<locals>." ++ "<lambda>"))] pn cs) 2 "_law_is" ["_law_address", "_law_place"] (s__law_is A) := fun pn cs => cal__law_is T D_law_is 
  have K__law_corner : ∀ (pn : Addr) (cs : List Int), CalD l.prog w K mg base (MM K [(p__law_in_order, (("_law_in_order" : Str) ++ ".<locals>." ++ "<lambda>")), (p__law_made_right, (("_law_made_right" : Str) ++ ".<locals>." ++ "<lambda>")), (p__law_pair_right, (("_law_pair_right" : Str) ++ ".<locals>." ++ "<lambda>")), (p__law_cells_right, (("_law_cells_right" : Str) ++ ".<locals>." ++ "<lambda>"))] pn cs) 2 "_law_corner" ["_law_area_here", "_law_at"] (s__law_corner A) := fun pn cs => cal__law_corner T D_law_corner 
  have K__law_is_area : ∀ (pn : Addr) (cs : List Int), CalD l.prog w K mg base (MM K [(p__law_in_order, (("_law_in_order" : Str) ++ ".<locals>." ++ "<lambda>")), (p__law_made_right, (("_law_made_right" : Str) ++ ".<locals>." ++ "<lambda>")), (p__law_pair_right, (("_law_pair_right" : Str) ++ ".<locals>." ++ "<lambda>")), (p__law_cells_right, (("_law_cells_right" : Str) ++ ".<locals>." ++ "<lambda>"))] pn cs) 3 "_law_is_area" ["_law_found", "_law_area_here"] (s__law_is_area A) := fun pn cs => cal__law_is_area T D_law_is_area (K__law_corner pn cs) (K__law_is pn cs)
  have K__law_made : ∀ (pn : Addr) (cs : List Int), CalD l.prog w K mg base (MM K [(p__law_in_order, (("_law_in_order" : Str) ++ ".<locals>." ++ "<lambda>")), (p__law_made_right, (("_law_made_right" : Str) ++ ".<locals>." ++ "<lambda>")), (p__law_pair_right, (("_law_pair_right" : Str) ++ ".<locals>." ++ "<lambda>")), (p__law_cells_right, (("_law_cells_right" : Str) ++ ".<locals>." ++ "<lambda>"))] pn cs) 7 "_law_made" ["_law_place"] (s__law_made A) := fun pn cs => cal__law_made T D_law_made (K_Address_new0 pn cs)
  have K__law_area_made : ∀ (pn : Addr) (cs : List Int), CalD l.prog w K mg base (MM K [(p__law_in_order, (("_law_in_order" : Str) ++ ".<locals>." ++ "<lambda>")), (p__law_made_right, (("_law_made_right" : Str) ++ ".<locals>." ++ "<lambda>")), (p__law_pair_right, (("_law_pair_right" : Str) ++ ".<locals>." ++ "<lambda>")), (p__law_cells_right, (("_law_cells_right" : Str) ++ ".<locals>." ++ "<lambda>"))] pn cs) 9 "_law_area_made" ["_law_area_here"] (s__law_area_made A) := fun pn cs => cal__law_area_made T D_law_area_made (K_Area_new1 pn cs) (K__law_corner pn cs) (K__law_made pn cs)
  have K_Address_eq : ∀ (pn : Addr) (cs : List Int), EqD l.prog w K mg base (MM K [(p__law_in_order, (("_law_in_order" : Str) ++ ".<locals>." ++ "<lambda>")), (p__law_made_right, (("_law_made_right" : Str) ++ ".<locals>." ++ "<lambda>")), (p__law_pair_right, (("_law_pair_right" : Str) ++ ".<locals>." ++ "<lambda>")), (p__law_cells_right, (("_law_cells_right" : Str) ++ ".<locals>." ++ "<lambda>"))] pn cs) 3 A.Address (s_Address_eq A) := fun pn cs => cal_Address_eq T FAddress_eq BAddress_eq ⟨hfiAddress_eq, hisfAddress_eq, hneAddress_eq, hobAddress_eq⟩ (K_same_sheets pn cs)
  have K_Area_eq : ∀ (pn : Addr) (cs : List Int), EqD l.prog w K mg base (MM K [(p__law_in_order, (("_law_in_order" : Str) ++ ".<locals>." ++ "<lambda>")), (p__law_made_right, (("_law_made_right" : Str) ++ ".<locals>." ++ "<lambda>")), (p__law_pair_right, (("_law_pair_right" : Str) ++ ".<locals>." ++ "<lambda>")), (p__law_cells_right, (("_law_cells_right" : Str) ++ ".<locals>." ++ "<lambda>"))] pn cs) 5 A.Area (s_Area_eq A) := fun pn cs => cal_Area_eq T FArea_eq BArea_eq ⟨hfiArea_eq, hisfArea_eq, hneArea_eq, hobArea_eq⟩ (K_Address_eq pn cs)
  have TU_law_made_right : ∀ p ∈ ([(p__law_in_order, (("_law_in_order" : Str) ++ ".<locals>." ++ "<lambda>")), (p__law_made_right, (("_law_made_right" : Str) ++ ".<locals>." ++ "<lambda>")), (p__law_pair_right, (("_law_pair_right" : Str) ++ ".<locals>." ++ "<lambda>")), (p__law_cells_right, (("_law_cells_right" : Str) ++ ".<locals>." ++ "<lambda>"))] : List (Addr × Str)), p.1 = p__law_made_right → p.2 = (("_law_made_right" : Str) ++ ".<locals>." ++ "<lambda>") := fun p hp e => by
      simp only [List.mem_cons, List.not_mem_nil, or_false] at hp
      rcases hp with rfl | rfl | rfl | rfl
      · exact absurd e hne_law_in_order_law_made_right
      · rfl
      · exact absurd e.symm hne_law_made_right_law_pair_right
      · exact absurd e.symm hne_law_made_right_law_cells_right
  have K__law_made_right : ∀ (pn : Addr) (cs : List Int), CalD l.prog w K mg base (MM K [(p__law_in_order, (("_law_in_order" : Str) ++ ".<locals>." ++ "<lambda>")), (p__law_made_right, (("_law_made_right" : Str) ++ ".<locals>." ++ "<lambda>")), (p__law_pair_right, (("_law_pair_right" : Str) ++ ".<locals>." ++ "<lambda>")), (p__law_cells_right, (("_law_cells_right" : Str) ++ ".<locals>." ++ "<lambda>"))] pn cs) 11 "_law_made_right" ["_law_pen_here", "_law_area_here"] (s__law_made_right A) := fun pn cs => cal__law_made_right T D_law_made_right (K_Address_eq pn cs) (K_Area_eq pn cs) (K_Area_new1 pn cs) (K__law_area_made pn cs) (K__law_is_area pn cs) (K__law_made pn cs) (K__law_normal pn cs) (K__law_pick pn cs) (hTB (c__law_made_right, p__law_made_right) (List.mem_cons_of_mem _ List.mem_cons_self)) (List.mem_cons_of_mem _ List.mem_cons_self) TU_law_made_right
  have K_need_area : ∀ (pn : Addr) (cs : List Int), CalD l.prog w K mg base (MM K [(p__law_in_order, (("_law_in_order" : Str) ++ ".<locals>." ++ "<lambda>")), (p__law_made_right, (("_law_made_right" : Str) ++ ".<locals>." ++ "<lambda>")), (p__law_pair_right, (("_law_pair_right" : Str) ++ ".<locals>." ++ "<lambda>")), (p__law_cells_right, (("_law_cells_right" : Str) ++ ".<locals>." ++ "<lambda>"))] pn cs) 2 "need_area" ["value"] (s_need_area A) := fun pn cs => cal_need_area T Dneed_area 
  have K_plain_area : ∀ (pn : Addr) (cs : List Int), CalD l.prog w K mg base (MM K [(p__law_in_order, (("_law_in_order" : Str) ++ ".<locals>." ++ "<lambda>")), (p__law_made_right, (("_law_made_right" : Str) ++ ".<locals>." ++ "<lambda>")), (p__law_pair_right, (("_law_pair_right" : Str) ++ ".<locals>." ++ "<lambda>")), (p__law_cells_right, (("_law_cells_right" : Str) ++ ".<locals>." ++ "<lambda>"))] pn cs) 9 "plain_area" ["top", "left", "bottom", "right", "sheet", "whole"] (s_plain_area A) := fun pn cs => cal_plain_area T Dplain_area (K_Address_new2 pn cs) (K_Area_new1 pn cs)
  have K_may_meet : ∀ (pn : Addr) (cs : List Int), CalD l.prog w K mg base (MM K [(p__law_in_order, (("_law_in_order" : Str) ++ ".<locals>." ++ "<lambda>")), (p__law_made_right, (("_law_made_right" : Str) ++ ".<locals>." ++ "<lambda>")), (p__law_pair_right, (("_law_pair_right" : Str) ++ ".<locals>." ++ "<lambda>")), (p__law_cells_right, (("_law_cells_right" : Str) ++ ".<locals>." ++ "<lambda>"))] pn cs) 3 "may_meet" ["one", "other"] (s_may_meet A) := fun pn cs => cal_may_meet T Dmay_meet (K_same_sheets pn cs)
  have K_common_area : ∀ (pn : Addr) (cs : List Int), CalD l.prog w K mg base (MM K [(p__law_in_order, (("_law_in_order" : Str) ++ ".<locals>." ++ "<lambda>")), (p__law_made_right, (("_law_made_right" : Str) ++ ".<locals>." ++ "<lambda>")), (p__law_pair_right, (("_law_pair_right" : Str) ++ ".<locals>." ++ "<lambda>")), (p__law_cells_right, (("_law_cells_right" : Str) ++ ".<locals>." ++ "<lambda>"))] pn cs) 10 "common_area" ["one", "other"] (s_common_area A) := fun pn cs => cal_common_area T Dcommon_area (K_may_meet pn cs) (K_plain_area pn cs)
  have K_Area_common : ∀ (pn : Addr) (cs : List Int), MetD l.prog w K mg base (MM K [(p__law_in_order, (("_law_in_order" : Str) ++ ".<locals>." ++ "<lambda>")), (p__law_made_right, (("_law_made_right" : Str) ++ ".<locals>." ++ "<lambda>")), (p__law_pair_right, (("_law_pair_right" : Str) ++ ".<locals>." ++ "<lambda>")), (p__law_cells_right, (("_law_cells_right" : Str) ++ ".<locals>." ++ "<lambda>"))] pn cs) 11 A.Area "common" ["self", "other"] (s_Area_common A) := fun pn cs => cal_Area_common T FArea_common BArea_common Cl_Area ⟨hfiArea_common, hisfArea_common, hkArea_common⟩ (K_common_area pn cs) (K_need_area pn cs)
  have K_part_of : ∀ (pn : Addr) (cs : List Int), CalD l.prog w K mg base (MM K [(p__law_in_order, (("_law_in_order" : Str) ++ ".<locals>." ++ "<lambda>")), (p__law_made_right, (("_law_made_right" : Str) ++ ".<locals>." ++ "<lambda>")), (p__law_pair_right, (("_law_pair_right" : Str) ++ ".<locals>." ++ "<lambda>")), (p__law_cells_right, (("_law_cells_right" : Str) ++ ".<locals>." ++ "<lambda>"))] pn cs) 10 "part_of" ["area", "top", "left", "bottom", "right"] (s_part_of A) := fun pn cs => cal_part_of T Dpart_of (K_plain_area pn cs)
  have K_parts_without : ∀ (pn : Addr) (cs : List Int), CalD l.prog w K mg base (MM K [(p__law_in_order, (("_law_in_order" : Str) ++ ".<locals>." ++ "<lambda>")), (p__law_made_right, (("_law_made_right" : Str) ++ ".<locals>." ++ "<lambda>")), (p__law_pair_right, (("_law_pair_right" : Str) ++ ".<locals>." ++ "<lambda>")), (p__law_cells_right, (("_law_cells_right" : Str) ++ ".<locals>." ++ "<lambda>"))] pn cs) 11 "parts_without" ["area", "hole"] (s_parts_without A) := fun pn cs => cal_parts_without T Dparts_without (K_part_of pn cs)
  have K_Area_without : ∀ (pn : Addr) (cs : List Int), MetD l.prog w K mg base (MM K [(p__law_in_order, (("_law_in_order" : Str) ++ ".<locals>." ++ "<lambda>")), (p__law_made_right, (("_law_made_right" : Str) ++ ".<locals>." ++ "<lambda>")), (p__law_pair_right, (("_law_pair_right" : Str) ++ ".<locals>." ++ "<lambda>")), (p__law_cells_right, (("_law_cells_right" : Str) ++ ".<locals>." ++ "<lambda>"))] pn cs) 12 A.Area "without" ["self", "other"] (s_Area_without A) := fun pn cs => cal_Area_without T FArea_without BArea_without Cl_Area ⟨hfiArea_without, hisfArea_without, hkArea_without⟩ (K_common_area pn cs) (K_need_area pn cs) (K_parts_without pn cs)
  have K__law_bare : ∀ (pn : Addr) (cs : List Int), CalD l.prog w K mg base (MM K [(p__law_in_order, (("_law_in_order" : Str) ++ ".<locals>." ++ "<lambda>")), (p__law_made_right, (("_law_made_right" : Str) ++ ".<locals>." ++ "<lambda>")), (p__law_pair_right, (("_law_pair_right" : Str) ++ ".<locals>." ++ "<lambda>")), (p__law_cells_right, (("_law_cells_right" : Str) ++ ".<locals>." ++ "<lambda>"))] pn cs) 2 "_law_bare" ["_law_top", "_law_left", "_law_bottom", "_law_right", "_law_whole", "_law_sheet"] (s__law_bare A) := fun pn cs => cal__law_bare T D_law_bare 
  have K__law_meet : ∀ (pn : Addr) (cs : List Int), CalD l.prog w K mg base (MM K [(p__law_in_order, (("_law_in_order" : Str) ++ ".<locals>." ++ "<lambda>")), (p__law_made_right, (("_law_made_right" : Str) ++ ".<locals>." ++ "<lambda>")), (p__law_pair_right, (("_law_pair_right" : Str) ++ ".<locals>." ++ "<lambda>")), (p__law_cells_right, (("_law_cells_right" : Str) ++ ".<locals>." ++ "<lambda>"))] pn cs) 2 "_law_meet" ["_law_one", "_law_other"] (s__law_meet A) := fun pn cs => cal__law_meet T D_law_meet 
  have K__law_shared : ∀ (pn : Addr) (cs : List Int), CalD l.prog w K mg base (MM K [(p__law_in_order, (("_law_in_order" : Str) ++ ".<locals>." ++ "<lambda>")), (p__law_made_right, (("_law_made_right" : Str) ++ ".<locals>." ++ "<lambda>")), (p__law_pair_right, (("_law_pair_right" : Str) ++ ".<locals>." ++ "<lambda>")), (p__law_cells_right, (("_law_cells_right" : Str) ++ ".<locals>." ++ "<lambda>"))] pn cs) 3 "_law_shared" ["_law_one", "_law_other"] (s__law_shared A) := fun pn cs => cal__law_shared T D_law_shared (K__law_bare pn cs) (K__law_meet pn cs)
  have K__law_left_over : ∀ (pn : Addr) (cs : List Int), CalD l.prog w K mg base (MM K [(p__law_in_order, (("_law_in_order" : Str) ++ ".<locals>." ++ "<lambda>")), (p__law_made_right, (("_law_made_right" : Str) ++ ".<locals>." ++ "<lambda>")), (p__law_pair_right, (("_law_pair_right" : Str) ++ ".<locals>." ++ "<lambda>")), (p__law_cells_right, (("_law_cells_right" : Str) ++ ".<locals>." ++ "<lambda>"))] pn cs) 3 "_law_left_over" ["_law_one", "_law_hole"] (s__law_left_over A) := fun pn cs => cal__law_left_over T D_law_left_over (K__law_bare pn cs)
  have K__law_alike : ∀ (pn : Addr) (cs : List Int), CalD l.prog w K mg base (MM K [(p__law_in_order, (("_law_in_order" : Str) ++ ".<locals>." ++ "<lambda>")), (p__law_made_right, (("_law_made_right" : Str) ++ ".<locals>." ++ "<lambda>")), (p__law_pair_right, (("_law_pair_right" : Str) ++ ".<locals>." ++ "<lambda>")), (p__law_cells_right, (("_law_cells_right" : Str) ++ ".<locals>." ++ "<lambda>"))] pn cs) 2 "_law_alike" ["_law_one", "_law_other"] (s__law_alike A) := fun pn cs => cal__law_alike T D_law_alike 
  have TU_law_pair_right : ∀ p ∈ ([(p__law_in_order, (("_law_in_order" : Str) ++ ".<locals>." ++ "<lambda>")), (p__law_made_right, (("_law_made_right" : Str) ++ ".<locals>." ++ "<lambda>")), (p__law_pair_right, (("_law_pair_right" : Str) ++ ".<locals>." ++ "<lambda>")), (p__law_cells_right, (("_law_cells_right" : Str) ++ ".<locals>." ++ "<lambda>"))] : List (Addr × Str)), p.1 = p__law_pair_right → p.2 = (("_law_pair_right" : Str) ++ ".<locals>." ++ "<lambda>") := fun p hp e => by
      simp only [List.mem_cons, List.not_mem_nil, or_false] at hp
      rcases hp with rfl | rfl | rfl | rfl
      · exact absurd e hne_law_in_order_law_pair_right
      · exact absurd e hne_law_made_right_law_pair_right
      · rfl
      · exact absurd e.symm hne_law_pair_right_law_cells_right
  have K__law_pair_right : ∀ (pn : Addr) (cs : List Int), CalD l.prog w K mg base (MM K [(p__law_in_order, (("_law_in_order" : Str) ++ ".<locals>." ++ "<lambda>")), (p__law_made_right, (("_law_made_right" : Str) ++ ".<locals>." ++ "<lambda>")), (p__law_pair_right, (("_law_pair_right" : Str) ++ ".<locals>." ++ "<lambda>")), (p__law_cells_right, (("_law_cells_right" : Str) ++ ".<locals>." ++ "<lambda>"))] pn cs) 14 "_law_pair_right" ["_law_pen_here", "_law_one", "_law_other"] (s__law_pair_right A) := fun pn cs => cal__law_pair_right T D_law_pair_right (K_Area_common pn cs) (K_Area_eq pn cs) (K_Area_without pn cs) (K__law_alike pn cs) (K__law_area_made pn cs) (K__law_is_area pn cs) (K__law_left_over pn cs) (K__law_normal pn cs) (K__law_shared pn cs) (hTB (c__law_pair_right, p__law_pair_right) (List.mem_cons_of_mem _ (List.mem_cons_of_mem _ List.mem_cons_self))) (List.mem_cons_of_mem _ (List.mem_cons_of_mem _ List.mem_cons_self)) TU_law_pair_right
  have K_Area_has : ∀ (pn : Addr) (cs : List Int), MetD l.prog w K mg base (MM K [(p__law_in_order, (("_law_in_order" : Str) ++ ".<locals>." ++ "<lambda>")), (p__law_made_right, (("_law_made_right" : Str) ++ ".<locals>." ++ "<lambda>")), (p__law_pair_right, (("_law_pair_right" : Str) ++ ".<locals>." ++ "<lambda>")), (p__law_cells_right, (("_law_cells_right" : Str) ++ ".<locals>." ++ "<lambda>"))] pn cs) 4 A.Area "has" ["self", "address"] (s_Area_has A) := fun pn cs => cal_Area_has T FArea_has BArea_has Cl_Area ⟨hfiArea_has, hisfArea_has, hkArea_has⟩ (K_may_meet pn cs) (K_need_address pn cs)
  have K__law_has_right : ∀ (pn : Addr) (cs : List Int), CalD l.prog w K mg base (MM K [(p__law_in_order, (("_law_in_order" : Str) ++ ".<locals>." ++ "<lambda>")), (p__law_made_right, (("_law_made_right" : Str) ++ ".<locals>." ++ "<lambda>")), (p__law_pair_right, (("_law_pair_right" : Str) ++ ".<locals>." ++ "<lambda>")), (p__law_cells_right, (("_law_cells_right" : Str) ++ ".<locals>." ++ "<lambda>"))] pn cs) 10 "_law_has_right" ["_law_pen_here", "_law_area_here", "_law_base"] (s__law_has_right A) := fun pn cs => cal__law_has_right T D_law_has_right (K_Area_has pn cs) (K__law_area_made pn cs) (K__law_draw pn cs) (K__law_made pn cs) (K__law_meet pn cs) (K__law_normal pn cs) (K__law_pick pn cs)
  have K_Area_cells : ∀ (pn : Addr) (cs : List Int), MetD l.prog w K mg base (MM K [(p__law_in_order, (("_law_in_order" : Str) ++ ".<locals>." ++ "<lambda>")), (p__law_made_right, (("_law_made_right" : Str) ++ ".<locals>." ++ "<lambda>")), (p__law_pair_right, (("_law_pair_right" : Str) ++ ".<locals>." ++ "<lambda>")), (p__law_cells_right, (("_law_cells_right" : Str) ++ ".<locals>." ++ "<lambda>"))] pn cs) 7 A.Area "cells" ["self"] (s_Area_cells A) := fun pn cs => cal_Area_cells T FArea_cells BArea_cells Cl_Area ⟨hfiArea_cells, hisfArea_cells, hkArea_cells⟩ (K_Address_new2 pn cs)
  have TU_law_cells_right : ∀ p ∈ ([(p__law_in_order, (("_law_in_order" : Str) ++ ".<locals>." ++ "<lambda>")), (p__law_made_right, (("_law_made_right" : Str) ++ ".<locals>." ++ "<lambda>")), (p__law_pair_right, (("_law_pair_right" : Str) ++ ".<locals>." ++ "<lambda>")), (p__law_cells_right, (("_law_cells_right" : Str) ++ ".<locals>." ++ "<lambda>"))] : List (Addr × Str)), p.1 = p__law_cells_right → p.2 = (("_law_cells_right" : Str) ++ ".<locals>." ++ "<lambda>") := fun p hp e => by
      simp only [List.mem_cons, List.not_mem_nil, or_false] at hp
      rcases hp with rfl | rfl | rfl | rfl
      · exact absurd e hne_law_in_order_law_cells_right
      · exact absurd e hne_law_made_right_law_cells_right
      · exact absurd e hne_law_pair_right_law_cells_right
      · rfl
  have K__law_cells_right : ∀ (pn : Addr) (cs : List Int), CalD l.prog w K mg base (MM K [(p__law_in_order, (("_law_in_order" : Str) ++ ".<locals>." ++ "<lambda>")), (p__law_made_right, (("_law_made_right" : Str) ++ ".<locals>." ++ "<lambda>")), (p__law_pair_right, (("_law_pair_right" : Str) ++ ".<locals>." ++ "<lambda>")), (p__law_cells_right, (("_law_cells_right" : Str) ++ ".<locals>." ++ "<lambda>"))] pn cs) 10 "_law_cells_right" ["_law_pen_here", "_law_area_here"] (s__law_cells_right A) := fun pn cs => cal__law_cells_right T D_law_cells_right (K_Area_cells pn cs) (K__law_area_made pn cs) (K__law_draw pn cs) (K__law_is pn cs) (K__law_normal pn cs) (hTB (c__law_cells_right, p__law_cells_right) (List.mem_cons_of_mem _ (List.mem_cons_of_mem _ (List.mem_cons_of_mem _ List.mem_cons_self)))) (List.mem_cons_of_mem _ (List.mem_cons_of_mem _ (List.mem_cons_of_mem _ List.mem_cons_self))) TU_law_cells_right
  exact ok_law T Flaw F_law_pen B_law_pen (PySem.W.mg_of X G ha_law_pen) hk_law_pen (PySem.W.mg_none_of X G hn_list) K__law_area K__law_cells_right K__law_draw K__law_has_right K__law_made_right K__law_pair_right K__law_pick
end K17

set_option Elab.async false
-- ROW
open PySem PySem.W PyProof.Rows
set_option maxRecDepth 100000 in
set_option maxHeartbeats 8000000 in
theorem PySem.Challenge.cw_allinputs_k17_areas_holds : PySem.Challenge.rw_allinputs_k17_areas.Holds := by
  w_on; o_law; k_head; (case hw => w_witness2)
  k_fill
  refine LamX.walk_ofTs (l := PySem.Challenge.rw_allinputs_k17_areas) (n := 63) (k := 15) (CX := fun w => L2.CX PySem.Challenge.rw_allinputs_k17_areas.prog w) (x := "_law_script") rfl (by decide) rfl ⟨rfl, by decide, by decide⟩ (fun w h Y => PySem.W.km_in_of Y) ?F (fun w H s e s' ⟨_, _, _, _, _, _, _, _, _, _, _, _, z⟩ => z)
  case F =>
    intro w mg fa h Y KX G hmg
    refine' K17.fin _ KX G hmg ?qn_all ?qn_bool ?qn_int ?qn_isinstance ?qn_len ?qn_max ?qn_min ?qn_range ?qn_sorted ?qn_str ?qn_tuple ?qn_super ?qn_list ?qg_MOST_CELLS ?qe_MOST_CELLS ?qg_MOST_COLUMNS ?qe_MOST_COLUMNS ?qg_MOST_ROWS ?qe_MOST_ROWS ?qa_Address ?qa_Area ?qa_BadValue ?qa_NotAName ?qa_OffGrid ?qa_TooMany ?qex_BadValue ?qhd_BadValue ?qty_BadValue ?qga_BadValue ?qgg_BadValue ?qno_BadValue_value ?qex_NotAName ?qhd_NotAName ?qty_NotAName ?qga_NotAName ?qgg_NotAName ?qno_NotAName_name ?qex_OffGrid ?qhd_OffGrid ?qty_OffGrid ?qga_OffGrid ?qgg_OffGrid ?qno_OffGrid_column ?qno_OffGrid_row ?qex_TooMany ?qhd_TooMany ?qty_TooMany ?qga_TooMany ?qgg_TooMany ?qno_TooMany_most ?qopq ?qhtop ?qx_BadValue ?qv_BadValue ?qsa_BadValue ?qi_BadValue ?qt_BadValue ?ql_BadValue ?qco_BadValue ?qlc_BadValue ?qvf_BadValue ?qff_BadValue ?qlx_BadValue ?qk_BadValue ?qve_BadValue ?qsu_BadValue ?qse_BadValue ?qx_OffGrid ?qv_OffGrid ?qsa_OffGrid ?qi_OffGrid ?qt_OffGrid ?ql_OffGrid ?qco_OffGrid ?qlc_OffGrid ?qvf_OffGrid ?qff_OffGrid ?qlx_OffGrid ?qk_OffGrid ?qve_OffGrid ?qsu_OffGrid ?qse_OffGrid ?qx_TooMany ?qv_TooMany ?qsa_TooMany ?qi_TooMany ?qt_TooMany ?ql_TooMany ?qco_TooMany ?qlc_TooMany ?qvf_TooMany ?qff_TooMany ?qlx_TooMany ?qk_TooMany ?qve_TooMany ?qsu_TooMany ?qse_TooMany ?qs_BadValue_BadValue ?qs_TooMany_BadValue ?qs_TooMany_NotAName ?qs_TooMany_OffGrid ?qs_TooMany_TooMany ?qpg_Address ?qhd_Address ?qpo_Address ?qsa_Address ?qno_Address_column ?qno_Address_fixed_column ?qno_Address_fixed_row ?qno_Address_row ?qno_Address_sheet ?qha_Address ?qhm_Address ?qmk_Address ?qk_Address ?qpg_Area ?qhd_Area ?qpo_Area ?qsa_Area ?qno_Area_first ?qno_Area_height ?qno_Area_last ?qno_Area_sheet ?qno_Area_whole ?qno_Area_width ?qha_Area ?qhm_Area ?qmk_Area ?qk_Area ?qhn ?qht ?qkt_Address_Address ?qkt_Area_Area ?qkt_NoneType_Address ?qkt_bool_Address ?qkt_int_Address ?qkt_str_Address ?qkt_list_Address ?qkt_tuple_Address ?qkt_NoneType_Area ?qkt_bool_Area ?qkt_int_Area ?qkt_str_Area ?qkt_list_Area ?qkt_tuple_Area ?qnf_Address_Address ?qnf_Area_Area ?qfiAddress_init ?qlAddress_init ?qcAddress_init ?qkAddress_init ?qisfAddress_init ?qkwAddress_init_fixed_row ?qkwAddress_init_fixed_column ?qkwAddress_init_sheet ?qfiArea_init ?qlArea_init ?qcArea_init ?qkArea_init ?qisfArea_init ?qkwArea_init_whole ?qfiAddress_eq ?qlAddress_eq ?qcAddress_eq ?qkAddress_eq ?qisfAddress_eq ?qneAddress_eq ?qobAddress_eq ?qfiArea_eq ?qlArea_eq ?qcArea_eq ?qkArea_eq ?qisfArea_eq ?qneArea_eq ?qobArea_eq ?qfiArea_common ?qlArea_common ?qcArea_common ?qkArea_common ?qisfArea_common ?qfiArea_without ?qlArea_without ?qcArea_without ?qkArea_without ?qisfArea_without ?qfiArea_has ?qlArea_has ?qcArea_has ?qkArea_has ?qisfArea_has ?qfiArea_cells ?qlArea_cells ?qcArea_cells ?qkArea_cells ?qisfArea_cells ?qa_law_draw ?ql_law_draw ?qc_law_draw ?qk_law_draw ?qa_law_pick ?ql_law_pick ?qc_law_pick ?qk_law_pick ?qa_law_corners ?ql_law_corners ?qc_law_corners ?qk_law_corners ?qa_law_area ?ql_law_area ?qc_law_area ?qk_law_area ?qais_integer ?qlis_integer ?qcis_integer ?qkis_integer ?qaneed_integer ?qlneed_integer ?qcneed_integer ?qkneed_integer ?qaneed_truth ?qlneed_truth ?qcneed_truth ?qkneed_truth ?qais_letter ?qlis_letter ?qcis_letter ?qkis_letter ?qais_digit ?qlis_digit ?qcis_digit ?qkis_digit ?qais_sheet_word ?qlis_sheet_word ?qcis_sheet_word ?qkis_sheet_word ?qaneed_sheet_word ?qlneed_sheet_word ?qcneed_sheet_word ?qkneed_sheet_word ?qais_on_grid ?qlis_on_grid ?qcis_on_grid ?qkis_on_grid ?qaneed_address ?qlneed_address ?qcneed_address ?qkneed_address ?qain_order ?qlin_order ?qcin_order ?qkin_order ?qanormal_rows ?qlnormal_rows ?qcnormal_rows ?qknormal_rows ?qanormal_columns ?qlnormal_columns ?qcnormal_columns ?qknormal_columns ?qasame_sheets ?qlsame_sheets ?qcsame_sheets ?qksame_sheets ?qa_law_in_order ?ql_law_in_order ?qc_law_in_order ?qk_law_in_order ?qa_law_normal ?ql_law_normal ?qc_law_normal ?qk_law_normal ?qa_law_is ?ql_law_is ?qc_law_is ?qk_law_is ?qa_law_corner ?ql_law_corner ?qc_law_corner ?qk_law_corner ?qa_law_is_area ?ql_law_is_area ?qc_law_is_area ?qk_law_is_area ?qa_law_made ?ql_law_made ?qc_law_made ?qk_law_made ?qa_law_told ?ql_law_told ?qc_law_told ?qk_law_told ?qa_law_area_made ?ql_law_area_made ?qc_law_area_made ?qk_law_area_made ?qa_law_made_right ?ql_law_made_right ?qc_law_made_right ?qk_law_made_right ?qaneed_area ?qlneed_area ?qcneed_area ?qkneed_area ?qaplain_area ?qlplain_area ?qcplain_area ?qkplain_area ?qamay_meet ?qlmay_meet ?qcmay_meet ?qkmay_meet ?qacommon_area ?qlcommon_area ?qccommon_area ?qkcommon_area ?qapart_of ?qlpart_of ?qcpart_of ?qkpart_of ?qaparts_without ?qlparts_without ?qcparts_without ?qkparts_without ?qa_law_bare ?ql_law_bare ?qc_law_bare ?qk_law_bare ?qa_law_meet ?ql_law_meet ?qc_law_meet ?qk_law_meet ?qa_law_shared ?ql_law_shared ?qc_law_shared ?qk_law_shared ?qa_law_left_over ?ql_law_left_over ?qc_law_left_over ?qk_law_left_over ?qa_law_alike ?ql_law_alike ?qc_law_alike ?qk_law_alike ?qa_law_pair_right ?ql_law_pair_right ?qc_law_pair_right ?qk_law_pair_right ?qa_law_has_right ?ql_law_has_right ?qc_law_has_right ?qk_law_has_right ?qa_law_cells_right ?ql_law_cells_right ?qc_law_cells_right ?qk_law_cells_right ?qalaw ?qllaw ?qclaw ?qklaw ?qa_law_pen ?ql_law_pen ?qc_law_pen ?qk_law_pen ?qcl_law_in_order ?qcp_law_in_order ?qch_law_in_order ?qpt_law_in_order ?qpk_law_in_order ?qcl_law_made_right ?qcp_law_made_right ?qch_law_made_right ?qpt_law_made_right ?qpk_law_made_right ?qcl_law_pair_right ?qcp_law_pair_right ?qch_law_pair_right ?qpt_law_pair_right ?qpk_law_pair_right ?qcl_law_cells_right ?qcp_law_cells_right ?qch_law_cells_right ?qpt_law_cells_right ?qpk_law_cells_right ?qne_law_in_order_law_made_right ?qne_law_in_order_law_pair_right ?qne_law_in_order_law_cells_right ?qne_law_made_right_law_pair_right ?qne_law_made_right_law_cells_right ?qne_law_pair_right_law_cells_right
    (case qn_all => k_is)
    (case qn_bool => k_is)
    (case qn_int => k_is)
    (case qn_isinstance => k_is)
    (case qn_len => k_is)
    (case qn_max => k_is)
    (case qn_min => k_is)
    (case qn_range => k_is)
    (case qn_sorted => k_is)
    (case qn_str => k_is)
    (case qn_tuple => k_is)
    (case qn_super => k_is)
    (case qn_list => k_is)
    (case qg_MOST_CELLS => k_is)
    (case qe_MOST_CELLS => rfl)
    (case qg_MOST_COLUMNS => k_is)
    (case qe_MOST_COLUMNS => rfl)
    (case qg_MOST_ROWS => k_is)
    (case qe_MOST_ROWS => rfl)
    (case qa_Address => k_is)
    (case qa_Area => k_is)
    (case qa_BadValue => k_is)
    (case qa_NotAName => k_is)
    (case qa_OffGrid => k_is)
    (case qa_TooMany => k_is)
    (case qex_BadValue => k_is)
    (case qhd_BadValue => k_is)
    (case qty_BadValue => k_is)
    (case qga_BadValue => k_is)
    (case qgg_BadValue => k_is)
    (case qno_BadValue_value => k_is)
    (case qex_NotAName => k_is)
    (case qhd_NotAName => k_is)
    (case qty_NotAName => k_is)
    (case qga_NotAName => k_is)
    (case qgg_NotAName => k_is)
    (case qno_NotAName_name => k_is)
    (case qex_OffGrid => k_is)
    (case qhd_OffGrid => k_is)
    (case qty_OffGrid => k_is)
    (case qga_OffGrid => k_is)
    (case qgg_OffGrid => k_is)
    (case qno_OffGrid_column => k_is)
    (case qno_OffGrid_row => k_is)
    (case qex_TooMany => k_is)
    (case qhd_TooMany => k_is)
    (case qty_TooMany => k_is)
    (case qga_TooMany => k_is)
    (case qgg_TooMany => k_is)
    (case qno_TooMany_most => k_is)
    (case qopq => k_is)
    (case qhtop => decide +kernel)
    (case qx_BadValue => k_is)
    (case qv_BadValue => decide +kernel)
    (case qsa_BadValue => k_is)
    (case qi_BadValue => k_is)
    (case qt_BadValue => k_is)
    (case ql_BadValue => k_is)
    (case qco_BadValue => k_is)
    (case qlc_BadValue => k_is)
    (case qvf_BadValue => rfl)
    (case qff_BadValue => decide +kernel)
    (case qlx_BadValue => k_is)
    (case qk_BadValue => k_is)
    (case qve_BadValue => k_is)
    (case qsu_BadValue => first | k_is | rfl | kernel_rfl)
    (case qse_BadValue => k_is)
    (case qx_OffGrid => k_is)
    (case qv_OffGrid => decide +kernel)
    (case qsa_OffGrid => k_is)
    (case qi_OffGrid => k_is)
    (case qt_OffGrid => k_is)
    (case ql_OffGrid => k_is)
    (case qco_OffGrid => k_is)
    (case qlc_OffGrid => k_is)
    (case qvf_OffGrid => rfl)
    (case qff_OffGrid => decide +kernel)
    (case qlx_OffGrid => k_is)
    (case qk_OffGrid => k_is)
    (case qve_OffGrid => k_is)
    (case qsu_OffGrid => first | k_is | rfl | kernel_rfl)
    (case qse_OffGrid => k_is)
    (case qx_TooMany => k_is)
    (case qv_TooMany => decide +kernel)
    (case qsa_TooMany => k_is)
    (case qi_TooMany => k_is)
    (case qt_TooMany => k_is)
    (case ql_TooMany => k_is)
    (case qco_TooMany => k_is)
    (case qlc_TooMany => k_is)
    (case qvf_TooMany => rfl)
    (case qff_TooMany => decide +kernel)
    (case qlx_TooMany => k_is)
    (case qk_TooMany => k_is)
    (case qve_TooMany => k_is)
    (case qsu_TooMany => first | k_is | rfl | kernel_rfl)
    (case qse_TooMany => k_is)
    (case qs_BadValue_BadValue => first | k_is | rfl)
    (case qs_TooMany_BadValue => first | k_is | rfl)
    (case qs_TooMany_NotAName => first | k_is | rfl)
    (case qs_TooMany_OffGrid => first | k_is | rfl)
    (case qs_TooMany_TooMany => first | k_is | rfl)
    (case qpg_Address => first | k_is | rfl)
    (case qhd_Address => first | k_is | rfl)
    (case qpo_Address => first | k_is | rfl)
    (case qsa_Address => first | k_is | rfl)
    (case qno_Address_column => first | k_is | rfl)
    (case qno_Address_fixed_column => first | k_is | rfl)
    (case qno_Address_fixed_row => first | k_is | rfl)
    (case qno_Address_row => first | k_is | rfl)
    (case qno_Address_sheet => first | k_is | rfl)
    (case qha_Address => first | k_is | rfl)
    (case qhm_Address => first | k_is | rfl)
    (case qmk_Address => first | k_is | rfl)
    (case qk_Address => first | k_is | rfl)
    (case qpg_Area => first | k_is | rfl)
    (case qhd_Area => first | k_is | rfl)
    (case qpo_Area => first | k_is | rfl)
    (case qsa_Area => first | k_is | rfl)
    (case qno_Area_first => first | k_is | rfl)
    (case qno_Area_height => first | k_is | rfl)
    (case qno_Area_last => first | k_is | rfl)
    (case qno_Area_sheet => first | k_is | rfl)
    (case qno_Area_whole => first | k_is | rfl)
    (case qno_Area_width => first | k_is | rfl)
    (case qha_Area => first | k_is | rfl)
    (case qhm_Area => first | k_is | rfl)
    (case qmk_Area => first | k_is | rfl)
    (case qk_Area => first | k_is | rfl)
    (case qhn => first | k_is | rfl)
    (case qht => first | k_is | rfl)
    (case qkt_Address_Address => first | k_is | rfl)
    (case qkt_Area_Area => first | k_is | rfl)
    (case qkt_NoneType_Address => first | k_is | rfl)
    (case qkt_bool_Address => first | k_is | rfl)
    (case qkt_int_Address => first | k_is | rfl)
    (case qkt_str_Address => first | k_is | rfl)
    (case qkt_list_Address => first | k_is | rfl)
    (case qkt_tuple_Address => first | k_is | rfl)
    (case qkt_NoneType_Area => first | k_is | rfl)
    (case qkt_bool_Area => first | k_is | rfl)
    (case qkt_int_Area => first | k_is | rfl)
    (case qkt_str_Area => first | k_is | rfl)
    (case qkt_list_Area => first | k_is | rfl)
    (case qkt_tuple_Area => first | k_is | rfl)
    (case qnf_Address_Address => first | k_is | rfl)
    (case qnf_Area_Area => first | k_is | rfl)
    (case qfiAddress_init => first | k_is | rfl)
    (case qlAddress_init => k_is)
    (case qcAddress_init => first | k_is | rfl)
    (case qkAddress_init => first | k_is | rfl)
    (case qisfAddress_init => first | k_is | rfl)
    (case qkwAddress_init_fixed_row => first | k_is | rfl)
    (case qkwAddress_init_fixed_column => first | k_is | rfl)
    (case qkwAddress_init_sheet => first | k_is | rfl)
    (case qfiArea_init => first | k_is | rfl)
    (case qlArea_init => k_is)
    (case qcArea_init => first | k_is | rfl)
    (case qkArea_init => first | k_is | rfl)
    (case qisfArea_init => first | k_is | rfl)
    (case qkwArea_init_whole => first | k_is | rfl)
    (case qfiAddress_eq => first | k_is | rfl)
    (case qlAddress_eq => k_is)
    (case qcAddress_eq => first | k_is | rfl)
    (case qkAddress_eq => first | k_is | rfl)
    (case qisfAddress_eq => first | k_is | rfl)
    (case qneAddress_eq => first | k_is | rfl)
    (case qobAddress_eq => first | k_is | rfl)
    (case qfiArea_eq => first | k_is | rfl)
    (case qlArea_eq => k_is)
    (case qcArea_eq => first | k_is | rfl)
    (case qkArea_eq => first | k_is | rfl)
    (case qisfArea_eq => first | k_is | rfl)
    (case qneArea_eq => first | k_is | rfl)
    (case qobArea_eq => first | k_is | rfl)
    (case qfiArea_common => first | k_is | rfl)
    (case qlArea_common => k_is)
    (case qcArea_common => first | k_is | rfl)
    (case qkArea_common => first | k_is | rfl)
    (case qisfArea_common => first | k_is | rfl)
    (case qfiArea_without => first | k_is | rfl)
    (case qlArea_without => k_is)
    (case qcArea_without => first | k_is | rfl)
    (case qkArea_without => first | k_is | rfl)
    (case qisfArea_without => first | k_is | rfl)
    (case qfiArea_has => first | k_is | rfl)
    (case qlArea_has => k_is)
    (case qcArea_has => first | k_is | rfl)
    (case qkArea_has => first | k_is | rfl)
    (case qisfArea_has => first | k_is | rfl)
    (case qfiArea_cells => first | k_is | rfl)
    (case qlArea_cells => k_is)
    (case qcArea_cells => first | k_is | rfl)
    (case qkArea_cells => first | k_is | rfl)
    (case qisfArea_cells => first | k_is | rfl)
    (case qa_law_draw => k_is)
    (case ql_law_draw => k_is)
    (case qc_law_draw => k_is)
    (case qk_law_draw => k_is)
    (case qa_law_pick => k_is)
    (case ql_law_pick => k_is)
    (case qc_law_pick => k_is)
    (case qk_law_pick => k_is)
    (case qa_law_corners => k_is)
    (case ql_law_corners => k_is)
    (case qc_law_corners => k_is)
    (case qk_law_corners => k_is)
    (case qa_law_area => k_is)
    (case ql_law_area => k_is)
    (case qc_law_area => k_is)
    (case qk_law_area => k_is)
    (case qais_integer => k_is)
    (case qlis_integer => k_is)
    (case qcis_integer => k_is)
    (case qkis_integer => k_is)
    (case qaneed_integer => k_is)
    (case qlneed_integer => k_is)
    (case qcneed_integer => k_is)
    (case qkneed_integer => k_is)
    (case qaneed_truth => k_is)
    (case qlneed_truth => k_is)
    (case qcneed_truth => k_is)
    (case qkneed_truth => k_is)
    (case qais_letter => k_is)
    (case qlis_letter => k_is)
    (case qcis_letter => k_is)
    (case qkis_letter => k_is)
    (case qais_digit => k_is)
    (case qlis_digit => k_is)
    (case qcis_digit => k_is)
    (case qkis_digit => k_is)
    (case qais_sheet_word => k_is)
    (case qlis_sheet_word => k_is)
    (case qcis_sheet_word => k_is)
    (case qkis_sheet_word => k_is)
    (case qaneed_sheet_word => k_is)
    (case qlneed_sheet_word => k_is)
    (case qcneed_sheet_word => k_is)
    (case qkneed_sheet_word => k_is)
    (case qais_on_grid => k_is)
    (case qlis_on_grid => k_is)
    (case qcis_on_grid => k_is)
    (case qkis_on_grid => k_is)
    (case qaneed_address => k_is)
    (case qlneed_address => k_is)
    (case qcneed_address => k_is)
    (case qkneed_address => k_is)
    (case qain_order => k_is)
    (case qlin_order => k_is)
    (case qcin_order => k_is)
    (case qkin_order => k_is)
    (case qanormal_rows => k_is)
    (case qlnormal_rows => k_is)
    (case qcnormal_rows => k_is)
    (case qknormal_rows => k_is)
    (case qanormal_columns => k_is)
    (case qlnormal_columns => k_is)
    (case qcnormal_columns => k_is)
    (case qknormal_columns => k_is)
    (case qasame_sheets => k_is)
    (case qlsame_sheets => k_is)
    (case qcsame_sheets => k_is)
    (case qksame_sheets => k_is)
    (case qa_law_in_order => k_is)
    (case ql_law_in_order => k_is)
    (case qc_law_in_order => k_is)
    (case qk_law_in_order => k_is)
    (case qa_law_normal => k_is)
    (case ql_law_normal => k_is)
    (case qc_law_normal => k_is)
    (case qk_law_normal => k_is)
    (case qa_law_is => k_is)
    (case ql_law_is => k_is)
    (case qc_law_is => k_is)
    (case qk_law_is => k_is)
    (case qa_law_corner => k_is)
    (case ql_law_corner => k_is)
    (case qc_law_corner => k_is)
    (case qk_law_corner => k_is)
    (case qa_law_is_area => k_is)
    (case ql_law_is_area => k_is)
    (case qc_law_is_area => k_is)
    (case qk_law_is_area => k_is)
    (case qa_law_made => k_is)
    (case ql_law_made => k_is)
    (case qc_law_made => k_is)
    (case qk_law_made => k_is)
    (case qa_law_told => k_is)
    (case ql_law_told => k_is)
    (case qc_law_told => k_is)
    (case qk_law_told => k_is)
    (case qa_law_area_made => k_is)
    (case ql_law_area_made => k_is)
    (case qc_law_area_made => k_is)
    (case qk_law_area_made => k_is)
    (case qa_law_made_right => k_is)
    (case ql_law_made_right => k_is)
    (case qc_law_made_right => k_is)
    (case qk_law_made_right => k_is)
    (case qaneed_area => k_is)
    (case qlneed_area => k_is)
    (case qcneed_area => k_is)
    (case qkneed_area => k_is)
    (case qaplain_area => k_is)
    (case qlplain_area => k_is)
    (case qcplain_area => k_is)
    (case qkplain_area => k_is)
    (case qamay_meet => k_is)
    (case qlmay_meet => k_is)
    (case qcmay_meet => k_is)
    (case qkmay_meet => k_is)
    (case qacommon_area => k_is)
    (case qlcommon_area => k_is)
    (case qccommon_area => k_is)
    (case qkcommon_area => k_is)
    (case qapart_of => k_is)
    (case qlpart_of => k_is)
    (case qcpart_of => k_is)
    (case qkpart_of => k_is)
    (case qaparts_without => k_is)
    (case qlparts_without => k_is)
    (case qcparts_without => k_is)
    (case qkparts_without => k_is)
    (case qa_law_bare => k_is)
    (case ql_law_bare => k_is)
    (case qc_law_bare => k_is)
    (case qk_law_bare => k_is)
    (case qa_law_meet => k_is)
    (case ql_law_meet => k_is)
    (case qc_law_meet => k_is)
    (case qk_law_meet => k_is)
    (case qa_law_shared => k_is)
    (case ql_law_shared => k_is)
    (case qc_law_shared => k_is)
    (case qk_law_shared => k_is)
    (case qa_law_left_over => k_is)
    (case ql_law_left_over => k_is)
    (case qc_law_left_over => k_is)
    (case qk_law_left_over => k_is)
    (case qa_law_alike => k_is)
    (case ql_law_alike => k_is)
    (case qc_law_alike => k_is)
    (case qk_law_alike => k_is)
    (case qa_law_pair_right => k_is)
    (case ql_law_pair_right => k_is)
    (case qc_law_pair_right => k_is)
    (case qk_law_pair_right => k_is)
    (case qa_law_has_right => k_is)
    (case ql_law_has_right => k_is)
    (case qc_law_has_right => k_is)
    (case qk_law_has_right => k_is)
    (case qa_law_cells_right => k_is)
    (case ql_law_cells_right => k_is)
    (case qc_law_cells_right => k_is)
    (case qk_law_cells_right => k_is)
    (case qalaw => k_is)
    (case qllaw => k_is)
    (case qclaw => k_is)
    (case qklaw => k_is)
    (case qa_law_pen => k_is)
    (case ql_law_pen => k_is)
    (case qc_law_pen => k_is)
    (case qk_law_pen => k_is)
    (case qcl_law_in_order => k_is)
    (case qcp_law_in_order => rfl)
    (case qch_law_in_order => first | k_is | rfl)
    (case qpt_law_in_order => exact PySem.W.km_tabs_of Y _ (by decide))
    (case qpk_law_in_order => first | k_is | rfl)
    (case qcl_law_made_right => k_is)
    (case qcp_law_made_right => rfl)
    (case qch_law_made_right => first | k_is | rfl)
    (case qpt_law_made_right => exact PySem.W.km_tabs_of Y _ (by decide))
    (case qpk_law_made_right => first | k_is | rfl)
    (case qcl_law_pair_right => k_is)
    (case qcp_law_pair_right => rfl)
    (case qch_law_pair_right => first | k_is | rfl)
    (case qpt_law_pair_right => exact PySem.W.km_tabs_of Y _ (by decide))
    (case qpk_law_pair_right => first | k_is | rfl)
    (case qcl_law_cells_right => k_is)
    (case qcp_law_cells_right => rfl)
    (case qch_law_cells_right => first | k_is | rfl)
    (case qpt_law_cells_right => exact PySem.W.km_tabs_of Y _ (by decide))
    (case qpk_law_cells_right => first | k_is | rfl)
    (case qne_law_in_order_law_made_right => decide)
    (case qne_law_in_order_law_pair_right => decide)
    (case qne_law_in_order_law_cells_right => decide)
    (case qne_law_made_right_law_pair_right => decide)
    (case qne_law_made_right_law_cells_right => decide)
    (case qne_law_pair_right_law_cells_right => decide)
