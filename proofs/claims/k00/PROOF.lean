import PyProof.Rows.All
import Wide.All
import OpenK.AllK
import Wide.FinOn
import HandS.ForMost
import HandS.Exc
import HandS.TryOnly
import HandS.ExcOwn
import HandS.WordsExc
import HandS.CallSlots
import HandS.IsInst
import HandS.Wide
import HandS.Lambda
import HandS.ExcField
import KE.KDictList
import PyProof.StrWalks
import HandS.TupAny
import HandS.Replace
import HandS.Defaults
import HandS.Codes
import KE.KSuper
import KE.KExcSuper
import HandS.ExcIs
import KE.KExcIs
import HandS.Dict
import HandS.ExcInit
import HandS.MakeKwOnly
import KE.KIntText
import KE.IntTextLaws
import HandS.SortKw
import KE.KSortKey
import HandS.Keys
import HandS.TupLe
import HandS.Deep
import HandS.Style
import HandS.Iter
import HandS.Sort
import HandS.OwnEq
import HandS.DictComp
import HandS.ExcValue
import PySem.Challenge.RW_allinputs_k00_errors_made_by_hand
import HandS.EndTab
set_option Elab.async false
set_option linter.all false
set_option maxRecDepth 100000
set_option maxHeartbeats 4000000
set_option autoImplicit false
/-! The data layer: values as trees, the heap out of sight. -/
namespace DL
open PySem PySem.Spec PyProof.Rows L2
abbrev Frag := PySem.W.Frag
abbrev S (l : List Nat) : Str := ⟨l.toArray⟩
/-- a value as a tree; exc: a caught exception at a, of the class C, its dict dd; thk: a lambda f whose code object is c, made where the slots are σ -/
inductive D where
  | non | bl (b : Bool) | int (i : Int) | str (l : List Nat) | ty (n : String) | ref (a : Addr)
  | pen | lst (xs : List D) | tup (xs : List D) | ins (C : Addr) (ns : List Str) (xs : List D)
  | exc (a C : Addr) (dd : Option Addr) (ns : List Str) (xs : List D) | err (C : Addr) (ns : List Str) (xs : List D) | dct | scr
  | thk (f c : Addr) (q : Str) (σ : List (Option V)) (δ : List (Option D))
/-- what may change: a list, an instance, a dict -/
inductive MO where
  | lst (xs : List D) | ins (C dx : Addr) (ns : List Str) (xs : List D) | dic (ks : List Key) (xs : List D) | rng (lo hi : Int)
/-- how far a run is: draws so far, the objects that may change -/
structure NS where
  at_ : Nat
  mu : Addr → Option MO
/-- mu with o at a -/
def mup (m : Addr → Option MO) (a : Addr) (o : Option MO) : Addr → Option MO := fun b => if b = a then o else m b
@[simp] theorem mup_same {m : Addr → Option MO} {a : Addr} {o : Option MO} : mup m a o a = o := if_pos rfl
theorem mup_ne {m : Addr → Option MO} {a b : Addr} {o : Option MO} (h : b ≠ a) : mup m a o b = m b := if_neg h
theorem mup_mup {m : Addr → Option MO} {a : Addr} {o u : Option MO} : mup (mup m a o) a u = mup m a u := by
  funext b
  unfold mup
  split <;> rfl
theorem mup_back {m : Addr → Option MO} {a : Addr} (h : m a = none) : mup m a none = m := by
  funext b
  unfold mup
  split
  · subst b; exact h.symm
  · rfl
/-- a law's statics: the written part, the tables of code objects -/
structure LC where
  K : Frag
  T : List (Addr × Str)
/-- a law's constants: how the pen's keys are called; where the pen stands, its numbers -/
structure LK where
  L : LC
  ka : Str
  kl : Str
  pn : Addr
  cs : List Int
def names : List (Str × V) → List Str := fun l => l.map (·.1)
/-- an exception of the class C at a, its dict dd -/
def ErrO (C : Addr) (dd : Option Addr) (a : Addr) : HO := .ext fun h => ∃ (oe : Obj) (vs : Array Value), h.get? a = some oe ∧ oe.cls = .ref C ∧ oe.dict = dd ∧ oe.data = .fields vs
def ErrF (G : Hp) : Option Addr → List (Str × V) → Prop
  | none, fs => fs = []
  | some d, fs => G d = some (.xd fs)
mutual
def Is (M : LK) (G : Hp) : V → D → Prop
  | v, .non => v = .non
  | v, .bl b => v = .bl b
  | v, .int i => v = .int i
  | v, .str l => v = .str (S l)
  | v, .ty n => v = .ty n
  | v, .ref a => v = .ref a
  | v, .pen => v = .ref M.pn
  | v, .lst xs => ∃ p vs, v = .ref p ∧ G p = some (.lst vs) ∧ IsL M G vs xs
  | v, .tup xs => ∃ p vs, v = .ref p ∧ SqT M.L.K G p vs ∧ IsL M G vs xs
  | v, .ins C ns xs => ∃ p dx fs, v = .ref p ∧ G p = some (.ins C dx fs) ∧ fs.map (·.1) = ns ∧ IsL M G (fs.map (·.2)) xs
  | v, .exc a C dd ns xs => v = .ref a ∧ ∃ fs, ErrF G dd fs ∧ fs.map (·.1) = ns ∧ IsL M G (fs.map (·.2)) xs
  | v, .err C ns xs => ∃ a dd fs, v = .ref a ∧ G a = some (ErrO C dd a) ∧ ErrF G dd fs ∧ fs.map (·.1) = ns ∧ IsL M G (fs.map (·.2)) xs
  | v, .dct => ∃ p, v = .ref p ∧ G p = some (.dK [])
  | v, .scr => ∃ p, v = .ref p ∧ SqL M.L.K G p (M.cs.map V.int)
  | v, .thk f c q σ δ => v = .ref f ∧ G c = some (LamX.CodeO c q) ∧ IsE M G σ δ
def IsL (M : LK) (G : Hp) : List V → List D → Prop
  | [], [] => True
  | v :: vs, d :: ds => Is M G v d ∧ IsL M G vs ds
  | _, _ => False
def IsE (M : LK) (G : Hp) : List (Option V) → List (Option D) → Prop
  | [], [] => True
  | v :: vs, d :: ds => IsO M G v d ∧ IsE M G vs ds
  | _, _ => False
def IsO (M : LK) (G : Hp) : Option V → Option D → Prop
  | _, none => True
  | some v, some d => Is M G v d
  | none, some _ => False
end
/-- G grows -/
def Ext (G G' : Hp) : Prop := ∀ a o, G a = some o → G' a = some o
theorem Ext.refl (G : Hp) : Ext G G := fun _ _ h => h
theorem Ext.trans {G G1 G2 : Hp} (a : Ext G G1) (b : Ext G1 G2) : Ext G G2 := fun c o h => b c o (a c o h)
theorem Ext.new {G : Hp} {p : Addr} {o : HO} (h : G p = none) : Ext G (upd G p o) := fun a u e => by
  rw [upd_ne (ne_of_none e h)]
  exact e
theorem Ext.seqT {K : Frag} {G G' : Hp} {a : Addr} {xs : List V} (e : Ext G G') (h : SqT K G a xs) : SqT K G' a xs := by
  rcases h with (h | ⟨o, h⟩) | h
  · exact .inl (.inl (e _ _ h))
  · exact .inl (.inr ⟨o, e _ _ h⟩)
  · exact .inr h
theorem Ext.seqL {K : Frag} {G G' : Hp} {a : Addr} {xs : List V} (e : Ext G G') (h : SqL K G a xs) : SqL K G' a xs := by
  rcases h with (h | ⟨o, h⟩) | h
  · exact .inl (.inl (e _ _ h))
  · exact .inl (.inr ⟨o, e _ _ h⟩)
  · exact .inr h
theorem ErrF.up {G G' : Hp} (e : Ext G G') {dd : Option Addr} {fs : List (Str × V)} (h : ErrF G dd fs) : ErrF G' dd fs := by
  cases dd with
  | none => exact h
  | some d => exact e _ _ h
mutual
theorem Is.up {M : LK} {G G' : Hp} (e : Ext G G') : ∀ (d : D) (v : V), Is M G v d → Is M G' v d
  | .non, _, h => h
  | .bl _, _, h => h
  | .int _, _, h => h
  | .str _, _, h => h
  | .ty _, _, h => h
  | .ref _, _, h => h
  | .pen, _, h => h
  | .lst xs, v, h => by
    simp only [Is] at h ⊢
    obtain ⟨p, vs, h1, h2, h3⟩ := h
    exact ⟨p, vs, h1, e _ _ h2, IsL.up e xs vs h3⟩
  | .tup xs, v, h => by
    simp only [Is] at h ⊢
    obtain ⟨p, vs, h1, h2, h3⟩ := h
    exact ⟨p, vs, h1, e.seqT h2, IsL.up e xs vs h3⟩
  | .ins C ns xs, v, h => by
    simp only [Is] at h ⊢
    obtain ⟨p, dx, fs, h1, h2, h3, h4⟩ := h
    exact ⟨p, dx, fs, h1, e _ _ h2, h3, IsL.up e xs _ h4⟩
  | .exc a C dd ns xs, v, h => by
    simp only [Is] at h ⊢
    obtain ⟨h1, fs, h2, h3, h4⟩ := h
    exact ⟨h1, fs, h2.up e, h3, IsL.up e xs _ h4⟩
  | .err C ns xs, v, h => by
    simp only [Is] at h ⊢
    obtain ⟨a, dd, fs, h1, h2, h3, h4, h5⟩ := h
    exact ⟨a, dd, fs, h1, e _ _ h2, h3.up e, h4, IsL.up e xs _ h5⟩
  | .dct, v, h => by
    simp only [Is] at h ⊢
    obtain ⟨p, h1, h2⟩ := h
    exact ⟨p, h1, e _ _ h2⟩
  | .scr, v, h => by
    simp only [Is] at h ⊢
    obtain ⟨p, h1, h2⟩ := h
    exact ⟨p, h1, e.seqL h2⟩
  | .thk f c q σ δ, v, h => by
    simp only [Is] at h ⊢
    exact ⟨h.1, e _ _ h.2.1, IsE.up e δ σ h.2.2⟩
theorem IsL.up {M : LK} {G G' : Hp} (e : Ext G G') : ∀ (ds : List D) (vs : List V), IsL M G vs ds → IsL M G' vs ds
  | [], [], _ => by simp only [IsL]
  | d :: ds, v :: vs, h => by
    simp only [IsL] at h ⊢
    exact ⟨Is.up e d v h.1, IsL.up e ds vs h.2⟩
  | [], _ :: _, h => by simp only [IsL] at h
  | _ :: _, [], h => by simp only [IsL] at h
theorem IsE.up {M : LK} {G G' : Hp} (e : Ext G G') : ∀ (ds : List (Option D)) (vs : List (Option V)), IsE M G vs ds → IsE M G' vs ds
  | [], [], _ => by simp only [IsE]
  | d :: ds, v :: vs, h => by
    simp only [IsE] at h ⊢
    exact ⟨IsO.up e d v h.1, IsE.up e ds vs h.2⟩
  | [], _ :: _, h => by simp only [IsE] at h
  | _ :: _, [], h => by simp only [IsE] at h
theorem IsO.up {M : LK} {G G' : Hp} (e : Ext G G') : ∀ (d : Option D) (v : Option V), IsO M G v d → IsO M G' v d
  | none, _, _ => by simp only [IsO]
  | some d, some v, h => by
    simp only [IsO] at h ⊢
    exact Is.up e d v h
  | some _, none, h => by simp only [IsO] at h
end
theorem IsL.length {M : LK} {G : Hp} : ∀ {ds : List D} {vs : List V}, IsL M G vs ds → vs.length = ds.length
  | [], [], _ => rfl
  | d :: ds, v :: vs, h => by
    simp only [IsL] at h
    simp only [List.length_cons, IsL.length h.2]
  | [], _ :: _, h => by simp only [IsL] at h
  | _ :: _, [], h => by simp only [IsL] at h
theorem IsL.get {M : LK} {G : Hp} : ∀ {ds : List D} {vs : List V} {i : Nat} {d : D}, IsL M G vs ds → ds[i]? = some d → ∃ v, vs[i]? = some v ∧ Is M G v d
  | [], [], i, d, _, e => by simp at e
  | x :: ds, v :: vs, 0, d, h, e => by
    simp only [IsL] at h
    simp at e
    subst e
    exact ⟨v, rfl, h.1⟩
  | x :: ds, v :: vs, i + 1, d, h, e => by
    simp only [IsL] at h
    obtain ⟨u, h1, h2⟩ := IsL.get (i := i) h.2 (by simpa using e)
    exact ⟨u, by simpa using h1, h2⟩
  | [], _ :: _, _, _, h, _ => by simp only [IsL] at h
  | _ :: _, [], _, _, h, _ => by simp only [IsL] at h
theorem IsL.append {M : LK} {G : Hp} : ∀ {ds es : List D} {vs us : List V}, IsL M G vs ds → IsL M G us es → IsL M G (vs ++ us) (ds ++ es)
  | [], _, [], _, _, g => g
  | d :: ds, es, v :: vs, us, h, g => by
    simp only [IsL, List.cons_append] at h ⊢
    exact ⟨h.1, IsL.append h.2 g⟩
  | [], _, _ :: _, _, h, _ => by simp only [IsL] at h
  | _ :: _, _, [], _, h, _ => by simp only [IsL] at h
theorem IsL.take {M : LK} {G : Hp} : ∀ {ds : List D} {vs : List V} (n : Nat), IsL M G vs ds → IsL M G (vs.take n) (ds.take n)
  | _, _, 0, _ => by simp only [List.take_zero, IsL]
  | [], [], n + 1, _ => by simp only [List.take_nil, IsL]
  | d :: ds, v :: vs, n + 1, h => by
    simp only [IsL, List.take_succ_cons] at h ⊢
    exact ⟨h.1, IsL.take n h.2⟩
  | [], _ :: _, _ + 1, h => by simp only [IsL] at h
  | _ :: _, [], _ + 1, h => by simp only [IsL] at h
theorem IsL.drop {M : LK} {G : Hp} : ∀ {ds : List D} {vs : List V} (n : Nat), IsL M G vs ds → IsL M G (vs.drop n) (ds.drop n)
  | _, _, 0, h => h
  | [], [], n + 1, _ => by simp only [List.drop_nil, IsL]
  | d :: ds, v :: vs, n + 1, h => by
    simp only [IsL, List.drop_succ_cons] at h ⊢
    exact IsL.drop n h.2
  | [], _ :: _, _ + 1, h => by simp only [IsL] at h
  | _ :: _, [], _ + 1, h => by simp only [IsL] at h
/-- the pen: a dict of three entries; at below n -/
structure PenOk (K : Frag) (ka kl : Str) (cs : List Int) (pn : Addr) (n : Nat) (G H : Hp) : Prop where
  ob : ∃ (la : Addr) (ns : List Int) (a l : Int), H pn = some (.dK [(.inr "cells", .ref la), (.inr ka, .int a), (.inr kl, .int l)]) ∧ G la = some (.lst (ns.map V.int)) ∧ ns.length ≤ 63 ∧ 0 ≤ a ∧ a ≤ n ∧ 0 ≤ l ∧ ns = cs
  fr : G pn = none
def notTbl (o : HO) : Prop := ∀ ps, o ≠ .tbl ps
/-- what stands at a place that may change -/
def MIs (M : LK) (G : Hp) : HO → MO → Prop
  | .lst vs, .lst xs => IsL M G vs xs
  | .ins C dx fs, .ins C' dx' ns xs => C = C' ∧ dx = dx' ∧ fs.map (·.1) = ns ∧ IsL M G (fs.map (·.2)) xs
  | .dK kvs, .dic ks xs => kvs.map (·.1) = ks ∧ IsL M G (kvs.map (·.2)) xs
  | .rng a b, .rng c d => a = c ∧ b = d
  | _, _ => False
theorem MIs.up {M : LK} {G G' : Hp} {h : HO} {o : MO} (e : Ext G G') (i : MIs M G h o) : MIs M G' h o := by
  cases h <;> cases o <;> simp only [MIs] at i ⊢
  · exact IsL.up e _ _ i
  · exact ⟨i.1, IsL.up e _ _ i.2⟩
  · exact ⟨i.1, i.2.1, i.2.2.1, IsL.up e _ _ i.2.2.2⟩
  · exact i
theorem MIs.nt {M : LK} {G : Hp} {h : HO} {o : MO} (i : MIs M G h o) : notTbl h := fun ps z => by
  subst z
  cases o <;> simp only [MIs] at i
structure EnvIs (M : LK) (G : Hp) (σ : L2.St) (δ : List (Option D)) : Prop where
  len : σ.length = δ.length
  at_ : ∀ (i : Nat) (d : D), δ[i]? = some (some d) → ∃ v, σ[i]? = some (some v) ∧ Is M G v d
structure Rep (M : LK) (pn : Addr) (G : Hp) (n : NS) (σ : L2.St) (δ : List (Option D)) (H : Hp) : Prop where
  ex : Ext G H
  pen : PenOk M.L.K M.ka M.kl M.cs pn n.at_ G H
  tab : LamX.Tabs M.L.T H
  nt : ∀ a o, G a = some o → notTbl o
  pe : pn = M.pn
  mu : ∀ a o, n.mu a = some o → ∃ h, H a = some h ∧ MIs M G h o ∧ G a = none ∧ a ≠ pn
  env : EnvIs M G σ δ
/-- from (G, H) on to (G', H'): what is known stays -/
structure Adv (pn : Addr) (G H G' H' : Hp) : Prop where
  ge : Ext G G'
theorem Adv.refl {pn : Addr} {G H : Hp} : Adv pn G H G H := ⟨Ext.refl _⟩
theorem Adv.trans {pn : Addr} {G H G1 H1 G2 H2 : Hp} (a : Adv pn G H G1 H1) (b : Adv pn G1 H1 G2 H2) : Adv pn G H G2 H2 := ⟨a.ge.trans b.ge⟩
theorem notTbl_dK {kvs : List (Key × V)} : notTbl (.dK kvs) := fun ps z => by cases z
theorem notTbl_lst {xs : List V} : notTbl (.lst xs) := fun ps z => by cases z
theorem notTbl_tup {xs : List V} : notTbl (.tup xs) := fun ps z => by cases z
theorem notTbl_ins {C dx : Addr} {fs : List (Str × V)} : notTbl (.ins C dx fs) := fun ps z => by cases z
section
variable {M : LK} {pn : Addr} {G G' H H' : Hp} {n n' : NS} {σ : L2.St} {δ : List (Option D)}
theorem Rep.hp (R : Rep M pn G n σ δ H) : ∃ kvs, H pn = some (.dK kvs) := by
  obtain ⟨la, ns, a, l, h, _⟩ := R.pen.ob
  exact ⟨_, h⟩
theorem Rep.tr (R : Rep M pn G n σ δ H) {G1 H1 : Hp} (a : Adv pn G H G' H') (b : Adv pn G' H' G1 H1) : Adv pn G H G1 H1 := a.trans b
theorem EnvIs.up (A : Adv pn G H G' H') (E : EnvIs M G σ δ) : EnvIs M G' σ δ where
  len := E.len
  at_ := fun i d e => by
    obtain ⟨v, h1, h2⟩ := E.at_ i d e
    exact ⟨v, h1, Is.up A.ge d v h2⟩
theorem Rep.gnone {a : Addr} (R : Rep M pn G n σ δ H) (h : H a = none) : G a = none := by
  cases e : G a with
  | none => rfl
  | some u => rw [R.ex _ _ e] at h; cases h
theorem Rep.munone {a : Addr} (R : Rep M pn G n σ δ H) (h : H a = none) : n.mu a = none := by
  cases e : n.mu a with
  | none => rfl
  | some o =>
    obtain ⟨u, h1, _⟩ := R.mu a o e
    rw [h] at h1; cases h1
theorem Rep.penne {p : Addr} (R : Rep M pn G n σ δ H) (h : H p = none) : pn ≠ p := by
  obtain ⟨kvs, hk⟩ := R.hp
  exact ne_of_none hk h
theorem PenOk.new {K : Frag} {ka kl : Str} {cs : List Int} {m : Nat} {p : Addr} {o : HO} (P : PenOk K ka kl cs pn m G H) (np : pn ≠ p) : PenOk K ka kl cs pn m G (upd H p o) := by
  obtain ⟨la, ns, a, l, h1, h2⟩ := P.ob
  exact ⟨⟨la, ns, a, l, by rw [upd_ne np]; exact h1, h2⟩, P.fr⟩
theorem PenOk.grow {K : Frag} {ka kl : Str} {cs : List Int} {m : Nat} {p : Addr} {o : HO} (P : PenOk K ka kl cs pn m G H) (np : pn ≠ p) (gp : G p = none) : PenOk K ka kl cs pn m (upd G p o) H := by
  obtain ⟨la, ns, a, l, h1, h2, h3⟩ := P.ob
  exact ⟨⟨la, ns, a, l, h1, by rw [upd_ne (ne_of_none h2 gp)]; exact h2, h3⟩, by rw [upd_ne np]; exact P.fr⟩
/-- a new object is laid, known from now on -/
theorem Rep.lay {p : Addr} {o : HO} (R : Rep M pn G n σ δ H) (h : H p = none) (ho : notTbl o) : Rep M pn (upd G p o) n σ δ (upd H p o) ∧ Adv pn G H (upd G p o) (upd H p o) := by
  have gp := R.gnone h
  have np := R.penne h
  have A : Adv pn G H (upd G p o) (upd H p o) := ⟨Ext.new gp⟩
  refine ⟨⟨fun a u e => ?_, (R.pen.new np).grow np gp, R.tab.ext fun b u e => by rw [upd_ne (ne_of_none e h)]; exact e, fun a u e => ?_, R.pe, fun a u e => ?_, R.env.up A⟩, A⟩
  · by_cases z : a = p
    · subst z; rw [upd_same] at e ⊢; exact e
    · rw [upd_ne z] at e ⊢; exact R.ex _ _ e
  · by_cases z : a = p
    · subst z; rw [upd_same] at e; cases e; exact ho
    · rw [upd_ne z] at e; exact R.nt _ _ e
  · obtain ⟨x, h1, h2, h3, h4⟩ := R.mu a u e
    have z := ne_of_none h1 h
    exact ⟨x, by rw [upd_ne z]; exact h1, h2.up A.ge, by rw [upd_ne z]; exact h3, h4⟩
/-- a new object that may change -/
theorem Rep.mak {p : Addr} {o : HO} {u : MO} (R : Rep M pn G n σ δ H) (h : H p = none) (i : MIs M G o u) : Rep M pn G ⟨n.at_, mup n.mu p (some u)⟩ σ δ (upd H p o) ∧ Adv pn G H G (upd H p o) := by
  have gp := R.gnone h
  have np := R.penne h
  refine ⟨⟨fun a x e => ?_, R.pen.new np, R.tab.ext fun b x e => by rw [upd_ne (ne_of_none e h)]; exact e, R.nt, R.pe, fun a x e => ?_, R.env⟩, ⟨Ext.refl _⟩⟩
  · have : a ≠ p := fun z => by rw [z, gp] at e; cases e
    rw [upd_ne this]; exact R.ex _ _ e
  · by_cases z : a = p
    · subst z
      rw [show (⟨n.at_, mup n.mu a (some u)⟩ : NS).mu a = some u from mup_same] at e
      cases e
      exact ⟨o, upd_same, i, gp, Ne.symm np⟩
    · rw [show (⟨n.at_, mup n.mu p (some u)⟩ : NS).mu a = n.mu a from mup_ne z] at e
      obtain ⟨y, h1, h2, h3, h4⟩ := R.mu a x e
      exact ⟨y, by rw [upd_ne z]; exact h1, h2, h3, h4⟩
theorem tabs_upd {T : List (Addr × Str)} {p : Addr} {o u : HO} (h : LamX.Tabs T H) (hp : H p = some u) (hu : notTbl u) (hc : ∀ c q, u ≠ LamX.CodeO c q) : LamX.Tabs T (upd H p o) := fun q hq => by
  obtain ⟨ps, h1, h2, h3⟩ := h q hq
  refine ⟨ps, by rw [upd_ne (fun z => by rw [z, hp] at h1; cases h1; exact hu _ rfl)]; exact h1, h2, fun pos cv hcv => ?_⟩
  obtain ⟨c, e1, e2⟩ := h3 pos cv hcv
  exact ⟨c, e1, by rw [upd_ne (fun z => by rw [z, hp] at e2; cases e2; exact hc _ _ rfl)]; exact e2⟩
theorem MIs.nc {h : HO} {o : MO} (i : MIs M G h o) (c : Addr) (q : Str) : h ≠ LamX.CodeO c q := fun z => by
  subst z
  unfold LamX.CodeO at i
  cases o <;> simp only [MIs] at i
/-- .. is changed -/
theorem Rep.chg {p : Addr} {o : HO} {u u0 : MO} (R : Rep M pn G n σ δ H) (h : n.mu p = some u0) (i : MIs M G o u) : Rep M pn G ⟨n.at_, mup n.mu p (some u)⟩ σ δ (upd H p o) := by
  obtain ⟨x0, g1, g2, g3, g4⟩ := R.mu p u0 h
  refine ⟨fun a x e => ?_, R.pen.new (Ne.symm g4), tabs_upd R.tab g1 g2.nt g2.nc, R.nt, R.pe, fun a x e => ?_, R.env⟩
  · have : a ≠ p := fun z => by rw [z, g3] at e; cases e
    rw [upd_ne this]; exact R.ex _ _ e
  · by_cases z : a = p
    · subst z
      rw [show (⟨n.at_, mup n.mu a (some u)⟩ : NS).mu a = some u from mup_same] at e
      cases e
      exact ⟨o, upd_same, i, g3, g4⟩
    · rw [show (⟨n.at_, mup n.mu p (some u)⟩ : NS).mu a = n.mu a from mup_ne z] at e
      obtain ⟨y, h1, h2, h3, h4⟩ := R.mu a x e
      exact ⟨y, by rw [upd_ne z]; exact h1, h2, h3, h4⟩
/-- .. becomes known: it changes no more -/
theorem Rep.frz {p : Addr} {u : MO} (R : Rep M pn G n σ δ H) (h : n.mu p = some u) : ∃ o, H p = some o ∧ MIs M G o u ∧ Rep M pn (upd G p o) ⟨n.at_, mup n.mu p none⟩ σ δ H ∧ Adv pn G H (upd G p o) H ∧ G p = none := by
  obtain ⟨o, g1, g2, g3, g4⟩ := R.mu p u h
  have A : Adv pn G H (upd G p o) H := ⟨Ext.new g3⟩
  refine ⟨o, g1, g2, ⟨fun a x e => ?_, R.pen.grow (Ne.symm g4) g3, R.tab, fun a x e => ?_, R.pe, fun a x e => ?_, R.env.up A⟩, A, g3⟩
  · by_cases z : a = p
    · subst z; rw [upd_same] at e; cases e; exact g1
    · rw [upd_ne z] at e; exact R.ex _ _ e
  · by_cases z : a = p
    · subst z; rw [upd_same] at e; cases e; exact g2.nt
    · rw [upd_ne z] at e; exact R.nt _ _ e
  · have z : a ≠ p := fun z => by
      subst z
      rw [show (⟨n.at_, mup n.mu a none⟩ : NS).mu a = none from mup_same] at e
      cases e
    rw [show (⟨n.at_, mup n.mu p none⟩ : NS).mu a = n.mu a from mup_ne z] at e
    obtain ⟨y, h1, h2, h3, h4⟩ := R.mu a x e
    exact ⟨y, h1, h2.up A.ge, by rw [upd_ne z]; exact h3, h4⟩
/-- less is told: more draws, fewer objects -/
def NS.Sub (n' n : NS) : Prop := n.at_ ≤ n'.at_ ∧ ∀ a o, n'.mu a = some o → n.mu a = some o
theorem NS.Sub.refl (n : NS) : NS.Sub n n := ⟨Nat.le_refl _, fun _ _ h => h⟩
theorem Rep.sub (R : Rep M pn G n σ δ H) (h : NS.Sub n' n) : Rep M pn G n' σ δ H := by
  obtain ⟨la, ns, a, l, h1, h2, h3, h4, h5, h6⟩ := R.pen.ob
  have := h.1
  exact ⟨R.ex, ⟨⟨la, ns, a, l, h1, h2, h3, h4, by omega, h6⟩, R.pen.fr⟩, R.tab, R.nt, R.pe, fun a o e => R.mu a o (h.2 a o e), R.env⟩
theorem getO {α : Type} {l : List (Option α)} {i : Nat} {x : Option α} {y : Option α} (h : (l.set i x)[i]? = some y) : y = x := by
  by_cases hi : i < l.length
  · rw [List.getElem?_set_self hi] at h
    exact (Option.some.inj h).symm
  · rw [List.getElem?_eq_none (by simp; omega)] at h
    cases h
/-- a slot is stored -/
theorem EnvIs.set {i : Nat} {v : V} {d : D} (E : EnvIs M G σ δ) (h : Is M G v d) : EnvIs M G (σ.set i (some v)) (δ.set i (some d)) where
  len := by simp [E.len]
  at_ := fun j x e => by
    by_cases hj : i = j
    · subst hj
      have e' := getO e
      cases e'
      have hi : i < σ.length := by
        rw [E.len]
        by_cases q : i < δ.length
        · exact q
        · rw [List.getElem?_eq_none (by simp; omega)] at e
          cases e
      exact ⟨v, List.getElem?_set_self hi, h⟩
    · rw [List.getElem?_set_ne hj] at e ⊢
      exact E.at_ j x e
theorem EnvIs.get {i : Nat} {d : D} (E : EnvIs M G σ δ) (h : δ[i]? = some (some d)) : ∃ v, σ[i]? = some (some v) ∧ Is M G v d := E.at_ i d h
end
/-! ### the readings -/
abbrev DEnv := List (Option D)
/-- an exception: its class, its fields -/
abbrev DX := List (Option D) → Addr → List Str → List D → NS → Prop
abbrev DTE := DEnv → NS → (D → NS → Prop) → DX → Prop
abbrev DTT := DEnv → NS → (Bool → NS → Prop) → DX → Prop
abbrev DTA := DEnv → NS → (List D → NS → Prop) → DX → Prop
structure DEnds where
  nx : DEnv → NS → Prop
  rt : D → NS → Prop
  bk : DEnv → NS → Prop := fun _ _ => False
  ct : DEnv → NS → Prop := fun _ _ => False
  ex : DX := fun _ _ _ _ _ => False
abbrev DTS := DEnds → DEnv → NS → Prop
/-- the dict at a of an exception -/
def XIs (M : LK) (G : Hp) (a : Option Addr) (ns : List Str) (ds : List D) : Prop := ∃ fs, ErrF G a fs ∧ fs.map (·.1) = ns ∧ IsL M G (fs.map (·.2)) ds
def XEnd (M : LK) (W : WX) (pn : Addr) (G : Hp) (σ : L2.St) (δ : DEnv) (H : Hp) (e : DX) : Prop :=
  ∀ G' C a ns ds n' H', Adv pn G H G' H' → Rep M pn G' n' σ δ H' → XIs M G' a ns ds → e δ C ns ds n' → W (.ref C) a σ H'
def liftE (M : LK) (W : WX) (f : DTE) : TE := fun σ H Q => ∃ pn G n δ q e, Rep M pn G n σ δ H ∧ f δ n q e ∧
  (∀ G' v d n' H', Adv pn G H G' H' → Rep M pn G' n' σ δ H' → Is M G' v d → q d n' → Q v H') ∧ XEnd M W pn G σ δ H e
def liftT (M : LK) (W : WX) (f : DTT) : TT := fun σ H Q => ∃ pn G n δ q e, Rep M pn G n σ δ H ∧ f δ n q e ∧
  (∀ G' b n' H', Adv pn G H G' H' → Rep M pn G' n' σ δ H' → q b n' → Q b H') ∧ XEnd M W pn G σ δ H e
def liftA (M : LK) (W : WX) (f : DTA) : TA := fun σ H Q => ∃ pn G n δ q e, Rep M pn G n σ δ H ∧ f δ n q e ∧
  (∀ G' vs ds n' H', Adv pn G H G' H' → Rep M pn G' n' σ δ H' → IsL M G' vs ds → q ds n' → Q vs H') ∧ XEnd M W pn G σ δ H e
structure SEnd (M : LK) (W : WX) (pn : Addr) (G : Hp) (H : Hp) (D₀ : Ends) (k : DEnds) : Prop where
  nx : ∀ G' σ' δ' n' H', Adv pn G H G' H' → Rep M pn G' n' σ' δ' H' → k.nx δ' n' → D₀.nx σ' H'
  rt : ∀ G' σ' δ' v d n' H', Adv pn G H G' H' → Rep M pn G' n' σ' δ' H' → Is M G' v d → k.rt d n' → D₀.rt v H'
  bk : ∀ G' σ' δ' n' H', Adv pn G H G' H' → Rep M pn G' n' σ' δ' H' → k.bk δ' n' → D₀.bk σ' H'
  ct : ∀ G' σ' δ' n' H', Adv pn G H G' H' → Rep M pn G' n' σ' δ' H' → k.ct δ' n' → D₀.ct σ' H'
  ex : ∀ G' σ' δ' C a ns ds n' H', Adv pn G H G' H' → Rep M pn G' n' σ' δ' H' → XIs M G' a ns ds → k.ex δ' C ns ds n' → W (.ref C) a σ' H'
def liftS (M : LK) (W : WX) (f : DTS) : TS := fun D₀ σ H => ∃ pn G n δ k, Rep M pn G n σ δ H ∧ f k δ n ∧ SEnd M W pn G H D₀ k
/-- weakening -/
theorem PEw {X : Cx} {e : Expr} {t t' : TE} (h : PE X e t) (w : ∀ σ H Q, t' σ H Q → t σ H Q) : PE X e t' := ⟨fun pins s σ H Q I q => h.run pins s σ H Q I (w _ _ _ q)⟩
theorem PTw {X : Cx} {e : Expr} {t t' : TT} (h : PT X e t) (w : ∀ σ H Q, t' σ H Q → t σ H Q) : PT X e t' := ⟨fun pins s σ H Q I q => h.run pins s σ H Q I (w _ _ _ q)⟩
theorem PAw {X : Cx} {e : List Expr} {t t' : TA} (h : PA X e t) (w : ∀ σ H Q, t' σ H Q → t σ H Q) : PA X e t' := ⟨fun pos pins s σ H Q I q => h.run pos pins s σ H Q I (w _ _ _ q)⟩
theorem PSw {X : Cx} {e : Stmt} {t t' : TS} (h : PS X e t) (w : ∀ D σ H, t' D σ H → t D σ H) : PS X e t' := ⟨fun pins s σ H D I q => h.run pins s σ H D I (w _ _ _ q)⟩
theorem PSsw {X : Cx} {e : List Stmt} {t t' : TS} (h : PSs X e t) (w : ∀ D σ H, t' D σ H → t D σ H) : PSs X e t' := ⟨fun pins s σ H D I q => h.run pins s σ H D I (w _ _ _ q)⟩
theorem XEnd.on {M : LK} {W : WX} {pn : Addr} {G G1 : Hp} {σ : L2.St} {δ : DEnv} {n : NS} {H H1 : Hp} {e : DX} (x : XEnd M W pn G σ δ H e) (R : Rep M pn G n σ δ H) (A : Adv pn G H G1 H1) : XEnd M W pn G1 σ δ H1 e :=
  fun G' C a ns ds n' H' A' R' h q => x G' C a ns ds n' H' (R.tr A A') R' h q
end DL

set_option Elab.async false
set_option linter.all false
set_option maxRecDepth 100000
set_option maxHeartbeats 4000000
set_option autoImplicit false
/-! The data layer: expressions. -/
namespace DL
open PySem PySem.Spec PyProof.Rows L2
/-! ### arguments that are no stars -/
def noStar : Expr → Bool
  | .Starred .. => false
  | _ => true
theorem starEach_cons {e : Expr} {es : List Expr} {env : Env} (h : noStar e = true) : starEach (e :: es) env = (false, eval e env) :: starEach es env := by
  cases e <;> first | rfl | cases h
/-! ### names and constants -/
def dGet (o : Option (Option D)) (q : D → Prop) : Prop := match o with
  | some (some d) => q d
  | _ => False
theorem dGet_some {o : Option (Option D)} {q : D → Prop} (h : dGet o q) : ∃ d, o = some (some d) ∧ q d := by
  match o, h with
  | some (some d), h => exact ⟨d, rfl, h⟩
def dVar (i : Nat) : DTE := fun δ n q _ => dGet δ[i]? fun d => q d n
def dC (d : D) : DTE := fun _ n q _ => q d n
section
variable {X : Cx} {M : LK} {W : WX}
theorem Rep.slot {pn : Addr} {G H : Hp} {n : NS} {σ : L2.St} {δ : DEnv} {i : Nat} {q : D → Prop} (R : Rep M pn G n σ δ H) (h : dGet δ[i]? q) : ∃ v d, σ[i]? = some (some v) ∧ Is M G v d ∧ q d := by
  obtain ⟨d, e, hq⟩ := dGet_some h
  obtain ⟨v, h1, h2⟩ := R.env.get e
  exact ⟨v, d, h1, h2, hq⟩
theorem dp_var {e : Expr} {i : Nat} (h : PE X e (tVar i)) : PE X e (liftE M W (dVar i)) := PEw h fun σ H Q ⟨pn, G, n, δ, q, ex, R, hf, hQ, _⟩ => by
  obtain ⟨v, d, h1, h2, hq⟩ := R.slot hf
  exact ⟨v, h1, hQ G v d n H Adv.refl R h2 hq⟩
theorem dp_c {e : Expr} {v : V} {d : D} (h : PE X e (tC v)) (hi : ∀ G, Is M G v d) : PE X e (liftE M W (dC d)) := PEw h fun σ H Q ⟨pn, G, n, δ, q, ex, R, hf, hQ, _⟩ => hQ G v d n H Adv.refl R (hi G) hf
theorem dp_int {i : Int} {j : Nat} {pos : Pos} : PE X (.Constant (.int i) j pos) (liftE M W (dC (.int i))) := dp_c pe_int fun _ => by simp only [Is]
theorem dp_bl {b : Bool} {j : Nat} {pos : Pos} : PE X (.Constant (.bool b) j pos) (liftE M W (dC (.bl b))) := dp_c pe_bl fun _ => by simp only [Is]
theorem dp_non {j : Nat} {pos : Pos} : PE X (.Constant .none j pos) (liftE M W (dC .non)) := dp_c pe_non fun _ => by simp only [Is]
theorem dp_str {x : Str} (l : List Nat) {j : Nat} {pos : Pos} (h : x = S l := by decide +kernel) : PE X (.Constant (.str x) j pos) (liftE M W (dC (.str l))) := dp_c pe_str fun _ => by simp only [Is]; rw [h]
/-! ### binary operations -/
def DR2 (M : LK) (r : R2) (g : D → D → NS → (D → NS → Prop) → Prop) : Prop := ∀ (pn : Addr) (G : Hp) (n : NS) (σ : L2.St) (δ : DEnv) (H : Hp) (v u : V) (x y : D) (q : D → NS → Prop) (Q : VK), Rep M pn G n σ δ H → Is M G v x → Is M G u y → g x y n q →
  (∀ G' w d n' H', Adv pn G H G' H' → Rep M pn G' n' σ δ H' → Is M G' w d → q d n' → Q w H') → r v u H Q
def dOp (g : D → D → NS → (D → NS → Prop) → Prop) (fa fb : DTE) : DTE := fun δ n q e => fa δ n (fun x n1 => fb δ n1 (fun y n2 => g x y n2 q) e) e
theorem liftE_bin {r : R2} {g : D → D → NS → (D → NS → Prop) → Prop} {fa fb : DTE} (hr : DR2 M r g) (σ : L2.St) (H : Hp) (Q : VK) (h : liftE M W (dOp g fa fb) σ H Q) : tOp r (liftE M W fa) (liftE M W fb) σ H Q := by
  obtain ⟨pn, G, n, δ, q, e, R, hf, hQ, hX⟩ := h
  refine ⟨pn, G, n, δ, _, e, R, hf, fun G1 v x n1 H1 A1 R1 i1 h1 => ?_, hX⟩
  refine ⟨pn, G1, n1, δ, _, e, R1, h1, fun G2 u y n2 H2 A2 R2 i2 h2 => ?_, hX.on R A1⟩
  exact hr pn G2 n2 σ δ H2 v u x y q Q R2 (Is.up A2.ge x v i1) i2 h2 fun G3 w d n3 H3 A3 R3 i3 h3 => hQ G3 w d n3 H3 (R.tr (R.tr A1 A2) A3) R3 i3 h3
theorem dp_op {a b : Expr} {op : Operator} {pos : Pos} {r : R2} {g : D → D → NS → (D → NS → Prop) → Prop} {fa fb : DTE} (ho : OpR X (binaryOp op) r) (hr : DR2 M r g) (ha : PE X a (liftE M W fa)) (hb : PE X b (liftE M W fb)) : PE X (.BinOp a op b pos) (liftE M W (dOp g fa fb)) :=
  PEw (pe_op ho ha hb) (liftE_bin hr)
theorem dp_cmp {a b : Expr} {op : CmpOp} {pos : Pos} {r : R2} {g : D → D → NS → (D → NS → Prop) → Prop} {fa fb : DTE} (ho : OpR X (compareOp op) r) (hr : DR2 M r g) (ha : PE X a (liftE M W fa)) (hb : PE X b (liftE M W fb)) (hm : behindInMarks op b = false) : PE X (.Compare a [op] [b] pos) (liftE M W (dOp g fa fb)) :=
  PEw (pe_cmpR ho ha hb hm) (liftE_bin hr)
/-- a test: the value is a truth -/
def dTest (f : DTE) : DTT := fun δ n q e => f δ n (fun d n1 => match d with | .bl b => q b n1 | _ => False) e
theorem liftT_test {f : DTE} {t : TE} (ht : ∀ σ H Q, liftE M W f σ H Q → t σ H Q) (σ : L2.St) (H : Hp) (Q : Bool → Hp → Prop) (h : liftT M W (dTest f) σ H Q) : t σ H fun x H' => ∃ k, x = .bl k ∧ Q k H' := by
  obtain ⟨pn, G, n, δ, q, e, R, hf, hQ, hX⟩ := h
  refine ht _ _ _ ⟨pn, G, n, δ, _, e, R, hf, fun G1 v d n1 H1 A1 R1 i1 h1 => ?_, hX⟩
  cases d with
  | bl b =>
    simp only [Is] at i1
    exact ⟨b, i1, hQ G1 b n1 H1 A1 R1 h1⟩
  | _ => exact h1.elim
theorem dt_cmp {a b : Expr} {op : CmpOp} {pos : Pos} {r : R2} {g : D → D → NS → (D → NS → Prop) → Prop} {fa fb : DTE} (ho : OpR X (compareOp op) r) (hr : DR2 M r g) (ha : PE X a (liftE M W fa)) (hb : PE X b (liftE M W fb)) (hm : behindInMarks op b = false) : PT X (.Compare a [op] [b] pos) (liftT M W (dTest (dOp g fa fb))) :=
  PTw (pt_cmpR ho ha hb hm) (liftT_test (liftE_bin hr))
theorem dt_val {e : Expr} {f : DTE} (h : PE X e (liftE M W f)) (he : ∀ whole, isTrue e X.env whole = (do let v ← whole; standAt e.pos; holding [v] (truthy v)) := by intro _; rfl) : PT X e (liftT M W (dTest f)) :=
  PTw (pt_val h he) (liftT_test fun _ _ _ h => h)
/-! ### chains -/
def dChain (g g' : D → D → NS → (D → NS → Prop) → Prop) (fa fb fc : DTE) : DTE := fun δ n q e => fa δ n (fun x n1 => fb δ n1 (fun y n2 => g x y n2 fun z n3 => match z with
  | .bl true => fc δ n3 (fun w n4 => g' y w n4 q) e
  | .bl false => q (.bl false) n3
  | _ => False) e) e
theorem liftE_chain {r r' : R2} {g g' : D → D → NS → (D → NS → Prop) → Prop} {fa fb fc : DTE} (hr : DR2 M r g) (hr' : DR2 M r' g') (σ : L2.St) (H : Hp) (Q : VK) (h : liftE M W (dChain g g' fa fb fc) σ H Q) :
    tChain r r' (liftE M W fa) (liftE M W fb) (liftE M W fc) σ H Q := by
  obtain ⟨pn, G, n, δ, q, e, R, hf, hQ, hX⟩ := h
  refine ⟨pn, G, n, δ, _, e, R, hf, fun G1 v x n1 H1 A1 R1 i1 h1 => ?_, hX⟩
  refine ⟨pn, G1, n1, δ, _, e, R1, h1, fun G2 u y n2 H2 A2 R2 i2 h2 => ?_, hX.on R A1⟩
  have A12 := R.tr A1 A2
  refine hr pn G2 n2 σ δ H2 v u x y _ _ R2 (Is.up A2.ge x v i1) i2 h2 fun G3 w d n3 H3 A3 R3 i3 h3 => ?_
  cases d with
  | bl b =>
    simp only [Is] at i3
    refine ⟨b, i3, ?_⟩
    cases b with
    | true =>
      refine iteT ?_
      refine ⟨pn, G3, n3, δ, _, e, R3, h3, fun G4 w' d' n4 H4 A4 R4 i4 h4 => ?_, hX.on R (R.tr A12 A3)⟩
      exact hr' pn G4 n4 σ δ H4 u w' y d' q Q R4 (Is.up (A3.ge.trans A4.ge) y u i2) i4 h4 fun G5 w5 d5 n5 H5 A5 R5 i5 h5 => hQ G5 w5 d5 n5 H5 (R.tr (R.tr (R.tr A12 A3) A4) A5) R5 i5 h5
    | false => exact iteF (hQ G3 (.bl false) (.bl false) n3 H3 (R.tr A12 A3) R3 (by simp only [Is]) h3)
  | _ => exact h3.elim
theorem dp_chain {a b c : Expr} {op op' : CmpOp} {pos : Pos} {r r' : R2} {g g' : D → D → NS → (D → NS → Prop) → Prop} {fa fb fc : DTE} (ho : OpR X (compareOp op) r) (hr : DR2 M r g) (ho' : OpR X (compareOp op') r') (hr' : DR2 M r' g')
    (ha : PE X a (liftE M W fa)) (hb : PE X b (liftE M W fb)) (hc : PE X c (liftE M W fc)) (hm : lastMarks [op, op'] [b, c] = false := by with_unfolding_all rfl) : PE X (.Compare a [op, op'] [b, c] pos) (liftE M W (dChain g g' fa fb fc)) :=
  PEw (pe_chain ho ho' ha hb hc hm) (liftE_chain hr hr')
theorem dt_chain {a b c : Expr} {op op' : CmpOp} {pos : Pos} {r r' : R2} {g g' : D → D → NS → (D → NS → Prop) → Prop} {fa fb fc : DTE} (ho : OpR X (compareOp op) r) (hr : DR2 M r g) (ho' : OpR X (compareOp op') r') (hr' : DR2 M r' g')
    (ha : PE X a (liftE M W fa)) (hb : PE X b (liftE M W fb)) (hc : PE X c (liftE M W fc)) (hm : lastMarks [op, op'] [b, c] = false := by with_unfolding_all rfl) : PT X (.Compare a [op, op'] [b, c] pos) (liftT M W (dTest (dChain g g' fa fb fc))) :=
  PTw (pt_chain ho ho' ha hb hc hm) (liftT_test (liftE_chain hr hr'))
/-! ### and, or, not -/
def dAnd (f g : DTT) : DTT := fun δ n q e => f δ n (fun b n1 => match b with | true => g δ n1 q e | false => q false n1) e
def dOr (f g : DTT) : DTT := fun δ n q e => f δ n (fun b n1 => match b with | true => q true n1 | false => g δ n1 q e) e
def dNot (f : DTT) : DTT := fun δ n q e => f δ n (fun b n1 => q (!b) n1) e
theorem PWw {X : Cx} {e : Expr} {t t' : TT} (h : PW X e t) (w : ∀ σ H Q, t' σ H Q → t σ H Q) : PW X e t' := ⟨fun wh pins s σ H Q I q => h.run wh pins s σ H Q I (w _ _ _ q)⟩
theorem dw_and1 {a : Expr} {pos : Pos} {f : DTT} (ha : PT X a (liftT M W f)) : PW X (.BoolOp .And [a] pos) (liftT M W f) := pw_and1 ha
theorem dw_or1 {a : Expr} {pos : Pos} {f : DTT} (ha : PT X a (liftT M W f)) : PW X (.BoolOp .Or [a] pos) (liftT M W f) := pw_or1 ha
theorem dw_and {a b : Expr} {rest : List Expr} {pos : Pos} {f g : DTT} (ha : PT X a (liftT M W f)) (hb : PW X (.BoolOp .And (b :: rest) pos) (liftT M W g)) : PW X (.BoolOp .And (a :: b :: rest) pos) (liftT M W (dAnd f g)) :=
  PWw (pw_and ha hb) fun σ H Q ⟨pn, G, n, δ, q, e, R, hf, hQ, hX⟩ => by
    refine ⟨pn, G, n, δ, _, e, R, hf, fun G1 b n1 H1 A1 R1 h1 => ?_, hX⟩
    cases b with
    | true => exact iteT ⟨pn, G1, n1, δ, q, e, R1, h1, fun G2 b n2 H2 A2 R2 h2 => hQ G2 b n2 H2 (R.tr A1 A2) R2 h2, hX.on R A1⟩
    | false => exact iteF (hQ G1 false n1 H1 A1 R1 h1)
theorem dw_or {a b : Expr} {rest : List Expr} {pos : Pos} {f g : DTT} (ha : PT X a (liftT M W f)) (hb : PW X (.BoolOp .Or (b :: rest) pos) (liftT M W g)) : PW X (.BoolOp .Or (a :: b :: rest) pos) (liftT M W (dOr f g)) :=
  PWw (pw_or ha hb) fun σ H Q ⟨pn, G, n, δ, q, e, R, hf, hQ, hX⟩ => by
    refine ⟨pn, G, n, δ, _, e, R, hf, fun G1 b n1 H1 A1 R1 h1 => ?_, hX⟩
    cases b with
    | true => exact iteT (hQ G1 true n1 H1 A1 R1 h1)
    | false => exact iteF ⟨pn, G1, n1, δ, q, e, R1, h1, fun G2 b n2 H2 A2 R2 h2 => hQ G2 b n2 H2 (R.tr A1 A2) R2 h2, hX.on R A1⟩
theorem dt_w {e : Expr} {f : DTT} (h : PW X e (liftT M W f)) : PT X e (liftT M W f) := h.pt
theorem dt_not {a : Expr} {pos : Pos} {f : DTT} (ha : PT X a (liftT M W f)) : PT X (.UnaryOp .Not a pos) (liftT M W (dNot f)) :=
  PTw (pt_not ha) fun σ H Q ⟨pn, G, n, δ, q, e, R, hf, hQ, hX⟩ => ⟨pn, G, n, δ, _, e, R, hf, fun G1 b n1 H1 A1 R1 h1 => hQ G1 (!b) n1 H1 A1 R1 h1, hX⟩
/-- .. as values, truths -/
def dAndV (f g : DTE) : DTE := fun δ n q e => f δ n (fun x n1 => match x with | .bl true => g δ n1 q e | .bl false => q (.bl false) n1 | _ => False) e
def dOrV (f g : DTE) : DTE := fun δ n q e => f δ n (fun x n1 => match x with | .bl true => q (.bl true) n1 | .bl false => g δ n1 q e | _ => False) e
def dNotV (f : DTE) : DTE := fun δ n q e => f δ n (fun x n1 => match x with | .bl b => q (.bl (!b)) n1 | _ => False) e
theorem dp_one {a : Expr} {op : BoolOp} {pos : Pos} {f : DTE} (ha : PE X a (liftE M W f)) : PE X (.BoolOp op [a] pos) (liftE M W f) := pe_one ha
theorem dp_and {a b : Expr} {rest : List Expr} {pos : Pos} {f g : DTE} (ha : PE X a (liftE M W f)) (hb : PE X (.BoolOp .And (b :: rest) pos) (liftE M W g)) : PE X (.BoolOp .And (a :: b :: rest) pos) (liftE M W (dAndV f g)) :=
  PEw (pe_and ha hb) fun σ H Q ⟨pn, G, n, δ, q, e, R, hf, hQ, hX⟩ => by
    refine ⟨pn, G, n, δ, _, e, R, hf, fun G1 v d n1 H1 A1 R1 i1 h1 => ?_, hX⟩
    cases d with
    | bl b =>
      simp only [Is] at i1
      refine ⟨b, i1, ?_⟩
      cases b with
      | true => exact iteT ⟨pn, G1, n1, δ, q, e, R1, h1, fun G2 v d n2 H2 A2 R2 i2 h2 => hQ G2 v d n2 H2 (R.tr A1 A2) R2 i2 h2, hX.on R A1⟩
      | false => exact iteF (hQ G1 (.bl false) (.bl false) n1 H1 A1 R1 (by simp only [Is]) h1)
    | _ => exact h1.elim
theorem dp_or {a b : Expr} {rest : List Expr} {pos : Pos} {f g : DTE} (ha : PE X a (liftE M W f)) (hb : PE X (.BoolOp .Or (b :: rest) pos) (liftE M W g)) : PE X (.BoolOp .Or (a :: b :: rest) pos) (liftE M W (dOrV f g)) :=
  PEw (pe_or ha hb) fun σ H Q ⟨pn, G, n, δ, q, e, R, hf, hQ, hX⟩ => by
    refine ⟨pn, G, n, δ, _, e, R, hf, fun G1 v d n1 H1 A1 R1 i1 h1 => ?_, hX⟩
    cases d with
    | bl b =>
      simp only [Is] at i1
      refine ⟨b, i1, ?_⟩
      cases b with
      | true => exact iteT (hQ G1 (.bl true) (.bl true) n1 H1 A1 R1 (by simp only [Is]) h1)
      | false => exact iteF ⟨pn, G1, n1, δ, q, e, R1, h1, fun G2 v d n2 H2 A2 R2 i2 h2 => hQ G2 v d n2 H2 (R.tr A1 A2) R2 i2 h2, hX.on R A1⟩
    | _ => exact h1.elim
theorem dp_not {a : Expr} {pos : Pos} {f : DTE} (ha : PE X a (liftE M W f)) : PE X (.UnaryOp .Not a pos) (liftE M W (dNotV f)) :=
  PEw (pe_not ha) fun σ H Q ⟨pn, G, n, δ, q, e, R, hf, hQ, hX⟩ => by
    refine ⟨pn, G, n, δ, _, e, R, hf, fun G1 v d n1 H1 A1 R1 i1 h1 => ?_, hX⟩
    cases d with
    | bl b =>
      simp only [Is] at i1
      exact ⟨b, i1, hQ G1 (.bl (!b)) (.bl (!b)) n1 H1 A1 R1 (by simp only [Is]) h1⟩
    | _ => exact h1.elim
def dIf (c : DTT) (f g : DTE) : DTE := fun δ n q e => c δ n (fun b n1 => match b with | true => f δ n1 q e | false => g δ n1 q e) e
theorem dp_if {c a b : Expr} {pos : Pos} {tc : DTT} {f g : DTE} (hc : PT X c (liftT M W tc)) (ha : PE X a (liftE M W f)) (hb : PE X b (liftE M W g)) : PE X (.IfExp c a b pos) (liftE M W (dIf tc f g)) :=
  PEw (pe_ifExp hc ha hb) fun σ H Q ⟨pn, G, n, δ, q, e, R, hf, hQ, hX⟩ => by
    refine ⟨pn, G, n, δ, _, e, R, hf, fun G1 b n1 H1 A1 R1 h1 => ?_, hX⟩
    cases b with
    | true => exact iteT ⟨pn, G1, n1, δ, q, e, R1, h1, fun G2 v d n2 H2 A2 R2 i2 h2 => hQ G2 v d n2 H2 (R.tr A1 A2) R2 i2 h2, hX.on R A1⟩
    | false => exact iteF ⟨pn, G1, n1, δ, q, e, R1, h1, fun G2 v d n2 H2 A2 R2 i2 h2 => hQ G2 v d n2 H2 (R.tr A1 A2) R2 i2 h2, hX.on R A1⟩
/-! ### arguments -/
def dNil : DTA := fun _ n q _ => q [] n
def dCons (f : DTE) (g : DTA) : DTA := fun δ n q e => f δ n (fun x n1 => g δ n1 (fun xs n2 => q (x :: xs) n2) e) e
theorem da_nil : PA X [] (liftA M W dNil) := PAw pa_nil fun σ H Q ⟨pn, G, n, δ, q, e, R, hf, hQ, hX⟩ => hQ G [] [] n H Adv.refl R (by simp only [IsL]) hf
theorem da_cons {e : Expr} {es : List Expr} {f : DTE} {g : DTA} (ha : PE X e (liftE M W f)) (hr : PA X es (liftA M W g)) (hs : starEach (e :: es) X.env = (false, eval e X.env) :: starEach es X.env := by exact starEach_cons rfl) : PA X (e :: es) (liftA M W (dCons f g)) :=
  PAw (pa_cons ha hr hs) fun σ H Q ⟨pn, G, n, δ, q, e, R, hf, hQ, hX⟩ => by
    refine ⟨pn, G, n, δ, _, e, R, hf, fun G1 v d n1 H1 A1 R1 i1 h1 => ?_, hX⟩
    refine ⟨pn, G1, n1, δ, _, e, R1, h1, fun G2 vs ds n2 H2 A2 R2 i2 h2 => ?_, hX.on R A1⟩
    exact hQ G2 (v :: vs) (d :: ds) n2 H2 (R.tr A1 A2) R2 (by simp only [IsL]; exact ⟨Is.up A2.ge d v i1, i2⟩) h2
/-- a tuple, a list of written items -/
def dTup (f : DTA) : DTE := fun δ n q e => f δ n (fun xs n1 => xs.length ≤ 100000 ∧ q (.tup xs) n1) e
def dLst (f : DTA) : DTE := fun δ n q e => f δ n (fun xs n1 => xs.length ≤ 100000 ∧ q (.lst xs) n1) e
theorem le_line {n : Nat} (h : n ≤ 100000) : n ≤ sizeLine := Nat.le_trans h (by decide)
theorem dp_tup {es : List Expr} {k : Nat} {pos : Pos} {f : DTA} (h : PA X es (liftA M W f)) (pe : ∀ {t : TA}, PA X es t → PE X (.Tuple es k pos) (tTup t) := by intro _ h; exact pe_tup h) : PE X (.Tuple es k pos) (liftE M W (dTup f)) :=
  PEw (pe h) fun σ H Q ⟨pn, G, n, δ, q, e, R, hf, hQ, hX⟩ => by
    refine ⟨pn, G, n, δ, _, e, R, hf, fun G1 vs ds n1 H1 A1 R1 i1 h1 => ?_, hX⟩
    refine ⟨by rw [i1.length]; exact le_line h1.1, fun p hp => ?_⟩
    obtain ⟨R2, A2⟩ := R1.lay (o := .tup vs) hp notTbl_tup
    exact hQ _ (.ref p) (.tup ds) n1 _ (R.tr A1 A2) R2 (by simp only [Is]; exact ⟨p, vs, rfl, SqT.of upd_same, IsL.up A2.ge ds vs i1⟩) h1.2
theorem dp_lst {es : List Expr} {pos : Pos} {f : DTA} (h : PA X es (liftA M W f)) (pe : ∀ {t : TA}, PA X es t → PE X (.List es pos) (tLst t) := by intro _ h; exact pe_lst h) : PE X (.List es pos) (liftE M W (dLst f)) :=
  PEw (pe h) fun σ H Q ⟨pn, G, n, δ, q, e, R, hf, hQ, hX⟩ => by
    refine ⟨pn, G, n, δ, _, e, R, hf, fun G1 vs ds n1 H1 A1 R1 i1 h1 => ?_, hX⟩
    refine ⟨by rw [i1.length]; exact le_line h1.1, fun p hp => ?_⟩
    obtain ⟨R2, A2⟩ := R1.lay (o := .lst vs) hp notTbl_lst
    exact hQ _ (.ref p) (.lst ds) n1 _ (R.tr A1 A2) R2 (by simp only [Is]; exact ⟨p, vs, rfl, upd_same, IsL.up A2.ge ds vs i1⟩) h1.2
/-- .. a list that may change -/
def dLstM (f : DTA) : DTE := fun δ n q e => f δ n (fun xs n1 => xs.length ≤ 100000 ∧ ∀ p, n1.mu p = none → q (.ref p) ⟨n1.at_, mup n1.mu p (some (.lst xs))⟩) e
theorem dp_lstM {es : List Expr} {pos : Pos} {f : DTA} (h : PA X es (liftA M W f)) (pe : ∀ {t : TA}, PA X es t → PE X (.List es pos) (tLst t) := by intro _ h; exact pe_lst h) : PE X (.List es pos) (liftE M W (dLstM f)) :=
  PEw (pe h) fun σ H Q ⟨pn, G, n, δ, q, e, R, hf, hQ, hX⟩ => by
    refine ⟨pn, G, n, δ, _, e, R, hf, fun G1 vs ds n1 H1 A1 R1 i1 h1 => ?_, hX⟩
    refine ⟨by rw [i1.length]; exact le_line h1.1, fun p hp => ?_⟩
    obtain ⟨R2, A2⟩ := R1.mak (o := .lst vs) (u := .lst ds) hp i1
    exact hQ _ (.ref p) (.ref p) _ _ (R.tr A1 A2) R2 (by simp only [Is]) (h1.2 p (R1.munone hp))
/-- the tree of an object that changes no more -/
def MO.tree : MO → Option D
  | .lst xs => some (.lst xs)
  | .ins C _ ns xs => some (.ins C ns xs)
  | .dic _ _ => none
  | .rng _ _ => none
/-- from here on it changes no more -/
def dFrz (f : DTE) : DTE := fun δ n q e => f δ n (fun d n1 => ∃ a o t, d = .ref a ∧ n1.mu a = some o ∧ o.tree = some t ∧ q t ⟨n1.at_, mup n1.mu a none⟩) e
theorem frz_is {pn a : Addr} {G H : Hp} {n : NS} {σ : L2.St} {δ : DEnv} {o : MO} {t : D} (R : Rep M pn G n σ δ H) (h : n.mu a = some o) (ht : o.tree = some t) : ∃ G1, Rep M pn G1 ⟨n.at_, mup n.mu a none⟩ σ δ H ∧ Adv pn G H G1 H ∧ Is M G1 (.ref a) t := by
  obtain ⟨u, h1, h2, R1, A1, g0⟩ := R.frz h
  refine ⟨_, R1, A1, ?_⟩
  cases o with
  | lst xs =>
    cases ht
    cases u <;> simp only [MIs] at h2
    simp only [Is]
    exact ⟨a, _, rfl, upd_same, IsL.up A1.ge _ _ h2⟩
  | ins C dx ns xs =>
    cases ht
    cases u <;> simp only [MIs] at h2
    obtain ⟨rfl, rfl, h3, h4⟩ := h2
    simp only [Is]
    exact ⟨a, _, _, rfl, upd_same, h3, IsL.up A1.ge _ _ h4⟩
  | dic _ _ => cases ht
  | rng _ _ => cases ht
theorem dp_frz {e : Expr} {f : DTE} (h : PE X e (liftE M W f)) : PE X e (liftE M W (dFrz f)) :=
  PEw h fun σ H Q ⟨pn, G, n, δ, q, e, R, hf, hQ, hX⟩ => by
    refine ⟨pn, G, n, δ, _, e, R, hf, fun G1 v d n1 H1 A1 R1 i1 h1 => ?_, hX⟩
    obtain ⟨a, o, t, rfl, h2, h3, h4⟩ := h1
    obtain ⟨G2, R2, A2, i2⟩ := frz_is R1 h2 h3
    simp only [Is] at i1
    subst i1
    exact hQ G2 (.ref a) t _ _ (R.tr A1 A2) R2 i2 h4
/-! ### calls of built-ins by values -/
def DRC (M : LK) (r : List V → Hp → VK → Prop) (g : List D → NS → (D → NS → Prop) → Prop) : Prop := ∀ (pn : Addr) (G : Hp) (n : NS) (σ : L2.St) (δ : DEnv) (H : Hp) (vs : List V) (xs : List D) (q : D → NS → Prop) (Q : VK), Rep M pn G n σ δ H → IsL M G vs xs → g xs n q →
  (∀ G' w d n' H', Adv pn G H G' H' → Rep M pn G' n' σ δ H' → Is M G' w d → q d n' → Q w H') → r vs H Q
def dCB (g : List D → NS → (D → NS → Prop) → Prop) (f : DTA) : DTE := fun δ n q e => f δ n (fun xs n1 => g xs n1 q) e
theorem dp_cb {e : Expr} {r : List V → Hp → VK → Prop} {g : List D → NS → (D → NS → Prop) → Prop} {f : DTA} (h : PE X e (tCB r (liftA M W f))) (hr : DRC M r g) : PE X e (liftE M W (dCB g f)) :=
  PEw h fun σ H Q ⟨pn, G, n, δ, q, e, R, hf, hQ, hX⟩ => by
    refine ⟨pn, G, n, δ, _, e, R, hf, fun G1 vs ds n1 H1 A1 R1 i1 h1 => ?_, hX⟩
    exact hr pn G1 n1 σ δ H1 vs ds q Q R1 i1 h1 fun G2 w d n2 H2 A2 R2 i2 h2 => hQ G2 w d n2 H2 (R.tr A1 A2) R2 i2 h2
/-- a method of a text -/
def DRM (M : LK) (r : V → List V → Hp → VK → Prop) (g : D → List D → NS → (D → NS → Prop) → Prop) : Prop := ∀ (pn : Addr) (G : Hp) (n : NS) (σ : L2.St) (δ : DEnv) (H : Hp) (v : V) (vs : List V) (x : D) (xs : List D) (q : D → NS → Prop) (Q : VK), Rep M pn G n σ δ H → Is M G v x → IsL M G vs xs → g x xs n q →
  (∀ G' w d n' H', Adv pn G H G' H' → Rep M pn G' n' σ δ H' → Is M G' w d → q d n' → Q w H') → r v vs H Q
def dM0 (g : D → List D → NS → (D → NS → Prop) → Prop) (f : DTE) : DTE := fun δ n q e => f δ n (fun x n1 => match x with | .str l => g (.str l) [] n1 q | _ => False) e
def dM1 (g : D → List D → NS → (D → NS → Prop) → Prop) (f h : DTE) : DTE := fun δ n q e => f δ n (fun x n1 => match x with | .str l => h δ n1 (fun y n2 => g (.str l) [y] n2 q) e | _ => False) e
theorem dp_m0 {e : Expr} {r : V → List V → Hp → VK → Prop} {g : D → List D → NS → (D → NS → Prop) → Prop} {f : DTE} (h : PE X e (tM0 r (liftE M W f))) (hr : DRM M r g) : PE X e (liftE M W (dM0 g f)) :=
  PEw h fun σ H Q ⟨pn, G, n, δ, q, e, R, hf, hQ, hX⟩ => by
    refine ⟨pn, G, n, δ, _, e, R, hf, fun G1 v d n1 H1 A1 R1 i1 h1 => ?_, hX⟩
    cases d with
    | str l =>
      have i1' := i1
      simp only [Is] at i1'
      exact ⟨⟨_, i1'⟩, hr pn G1 n1 σ δ H1 v [] (.str l) [] q Q R1 i1 (by simp only [IsL]) h1 fun G2 w d n2 H2 A2 R2 i2 h2 => hQ G2 w d n2 H2 (R.tr A1 A2) R2 i2 h2⟩
    | _ => exact h1.elim
theorem dp_m1 {e : Expr} {r : V → List V → Hp → VK → Prop} {g : D → List D → NS → (D → NS → Prop) → Prop} {f h : DTE} (hp : PE X e (tM1 r (liftE M W f) (liftE M W h))) (hr : DRM M r g) : PE X e (liftE M W (dM1 g f h)) :=
  PEw hp fun σ H Q ⟨pn, G, n, δ, q, e, R, hf, hQ, hX⟩ => by
    refine ⟨pn, G, n, δ, _, e, R, hf, fun G1 v d n1 H1 A1 R1 i1 h1 => ?_, hX⟩
    cases d with
    | str l =>
      have i1' := i1
      simp only [Is] at i1'
      refine ⟨⟨_, i1'⟩, pn, G1, n1, δ, _, e, R1, h1, fun G2 u y n2 H2 A2 R2 i2 h2 => ?_, hX.on R A1⟩
      exact hr pn G2 n2 σ δ H2 v [u] (.str l) [y] q Q R2 (Is.up A2.ge _ v i1) (by simp only [IsL]; exact ⟨i2, trivial⟩) h2 fun G3 w d n3 H3 A3 R3 i3 h3 => hQ G3 w d n3 H3 (R.tr (R.tr A1 A2) A3) R3 i3 h3
    | _ => exact h1.elim
end
end DL

set_option Elab.async false
set_option linter.all false
set_option maxRecDepth 100000
set_option maxHeartbeats 4000000
set_option autoImplicit false
/-! The data layer: statements, loops, comprehensions. -/
namespace DL
open PySem PySem.Spec PyProof.Rows L2
section
variable {X : Cx} {M : LK} {W : WX}
theorem SEnd.on {pn : Addr} {G G1 H H1 : Hp} {D₀ : Ends} {k : DEnds} {n : NS} {σ : L2.St} {δ : DEnv} (s : SEnd M W pn G H D₀ k) (R : Rep M pn G n σ δ H) (A : Adv pn G H G1 H1) : SEnd M W pn G1 H1 D₀ k where
  nx := fun G' σ' δ' n' H' A' => s.nx G' σ' δ' n' H' (R.tr A A')
  rt := fun G' σ' δ' v d n' H' A' => s.rt G' σ' δ' v d n' H' (R.tr A A')
  bk := fun G' σ' δ' n' H' A' => s.bk G' σ' δ' n' H' (R.tr A A')
  ct := fun G' σ' δ' n' H' A' => s.ct G' σ' δ' n' H' (R.tr A A')
  ex := fun G' σ' δ' C a ns ds n' H' A' => s.ex G' σ' δ' C a ns ds n' H' (R.tr A A')
theorem SEnd.xe {pn : Addr} {G H : Hp} {D₀ : Ends} {k : DEnds} {σ : L2.St} {δ : DEnv} (s : SEnd M W pn G H D₀ k) : XEnd M W pn G σ δ H k.ex := fun G' C a ns ds n' H' A' R' h q => s.ex G' σ δ C a ns ds n' H' A' R' h q
/-! ### blocks -/
def dNext : DTS := fun k δ n => k.nx δ n
def dSeq (f g : DTS) : DTS := fun k δ n => f { k with nx := fun δ' n' => g k δ' n' } δ n
theorem dss_nil : PSs X [] (liftS M W dNext) := PSsw pss_nil fun D₀ σ H ⟨pn, G, n, δ, k, R, hf, s⟩ => s.nx G σ δ n H Adv.refl R hf
theorem dss_cons {st : Stmt} {rest : List Stmt} {f g : DTS} (h1 : PS X st (liftS M W f)) (h2 : PSs X rest (liftS M W g)) : PSs X (st :: rest) (liftS M W (dSeq f g)) :=
  PSsw (pss_cons h1 h2) fun D₀ σ H ⟨pn, G, n, δ, k, R, hf, s⟩ => ⟨pn, G, n, δ, _, R, hf,
    ⟨fun G' σ' δ' n' H' A' R' h => ⟨pn, G', n', δ', k, R', h, s.on R A'⟩, s.rt, s.bk, s.ct, s.ex⟩⟩
theorem dss_one {st : Stmt} {f : DTS} (h1 : PS X st (liftS M W f)) : PSs X [st] (liftS M W f) := pss_one h1
def dBreak : DTS := fun k δ n => k.bk δ n
def dCont : DTS := fun k δ n => k.ct δ n
theorem ds_pass {pos : Pos} : PS X (.Pass pos) (liftS M W dNext) := PSw ps_pass fun D₀ σ H ⟨pn, G, n, δ, k, R, hf, s⟩ => s.nx G σ δ n H Adv.refl R hf
theorem ds_break {pos : Pos} : PS X (.Break pos) (liftS M W dBreak) := PSw ps_break fun D₀ σ H ⟨pn, G, n, δ, k, R, hf, s⟩ => s.bk G σ δ n H Adv.refl R hf
theorem ds_continue {pos : Pos} : PS X (.Continue pos) (liftS M W dCont) := PSw ps_continue fun D₀ σ H ⟨pn, G, n, δ, k, R, hf, s⟩ => s.ct G σ δ n H Adv.refl R hf
def dDrop (f : DTE) : DTS := fun k δ n => f δ n (fun _ n1 => k.nx δ n1) k.ex
theorem ds_expr {e : Expr} {pos : Pos} {f : DTE} (h : PE X e (liftE M W f)) (hs : swapsWith e none pos.line X.env = pure false := by rfl) : PS X (.Expr e pos) (liftS M W (dDrop f)) :=
  PSw (ps_expr h hs) fun D₀ σ H ⟨pn, G, n, δ, k, R, hf, s⟩ => ⟨pn, G, n, δ, _, k.ex, R, hf, fun G' v d n' H' A' R' i' h => s.nx G' σ δ n' H' A' R' h, s.xe⟩
def dRet (f : DTE) : DTS := fun k δ n => f δ n k.rt k.ex
theorem ds_ret {e : Expr} {pos : Pos} {f : DTE} (h : PE X e (liftE M W f)) : PS X (.Return (some e) pos) (liftS M W (dRet f)) :=
  PSw (ps_ret h) fun D₀ σ H ⟨pn, G, n, δ, k, R, hf, s⟩ => ⟨pn, G, n, δ, _, k.ex, R, hf, fun G' v d n' H' A' R' i' h => s.rt G' σ δ v d n' H' A' R' i' h, s.xe⟩
def dRetN : DTS := fun k _ n => k.rt .non n
theorem ds_retN {pos : Pos} : PS X (.Return none pos) (liftS M W dRetN) :=
  PSw ps_retN fun D₀ σ H ⟨pn, G, n, δ, k, R, hf, s⟩ => s.rt G σ δ .non .non n H Adv.refl R (by simp only [Is]) hf
def dIfS (c : DTT) (f g : DTS) : DTS := fun k δ n => c δ n (fun b n1 => match b with | true => f k δ n1 | false => g k δ n1) k.ex
theorem ds_if {c : Expr} {a b : List Stmt} {pos : Pos} {tc : DTT} {f g : DTS} (hc : PT X c (liftT M W tc)) (ha : PSs X a (liftS M W f)) (hb : PSs X b (liftS M W g)) : PS X (.If c a b pos) (liftS M W (dIfS tc f g)) :=
  PSw (ps_if hc ha hb) fun D₀ σ H ⟨pn, G, n, δ, k, R, hf, s⟩ => by
    refine ⟨pn, G, n, δ, _, k.ex, R, hf, fun G1 b n1 H1 A1 R1 h1 => ?_, s.xe⟩
    cases b with
    | true => exact iteT ⟨pn, G1, n1, δ, k, R1, h1, s.on R A1⟩
    | false => exact iteF ⟨pn, G1, n1, δ, k, R1, h1, s.on R A1⟩
theorem ds_never {st : Stmt} : PS X st (liftS M W fun _ _ _ => False) := PSw (t := tNever) ps_never fun D₀ σ H ⟨pn, G, n, δ, k, R, hf, s⟩ => hf
/-! ### targets -/
abbrev DTG := D → DEnv → NS → (DEnv → NS → Prop) → Prop
abbrev DTGs := List D → DEnv → NS → (DEnv → NS → Prop) → Prop
def wipeD (δ : DEnv) : List Nat → DEnv
  | [] => δ
  | v :: vs => (wipeD δ vs).set v none
/-- vs: the slots that may change -/
def liftG (M : LK) (vs : List Nat) (g : DTG) : TG := fun v σ H Q => ∃ pn G n δ d q, Rep M pn G n σ δ H ∧ Is M G v d ∧ g d δ n q ∧ ∀ G' σ' δ' n' H', Adv pn G H G' H' → Rep M pn G' n' σ' δ' H' → wipe σ' vs = wipe σ vs → q δ' n' → Q σ' H'
def liftGs (M : LK) (vs : List Nat) (g : DTGs) : TGs := fun us σ H Q => ∃ pn G n δ ds q, Rep M pn G n σ δ H ∧ IsL M G us ds ∧ g ds δ n q ∧ ∀ G' σ' δ' n' H', Adv pn G H G' H' → Rep M pn G' n' σ' δ' H' → wipe σ' vs = wipe σ vs → q δ' n' → Q σ' H'
theorem PGw {X : Cx} {e : Expr} {t t' : TG} (h : PG X e t) (w : ∀ v σ H Q, t' v σ H Q → t v σ H Q) : PG X e t' := ⟨fun pins s σ H v u Q I r q => h.run pins s σ H v u Q I r (w _ _ _ _ q)⟩
theorem PGsw {X : Cx} {e : List Expr} {t t' : TGs} (h : PGs X e t) (w : ∀ v σ H Q, t' v σ H Q → t v σ H Q) : PGs X e t' := ⟨fun pins s σ H v u Q I r q => h.run pins s σ H v u Q I r (w _ _ _ _ q)⟩
def dgName (i : Nat) : DTG := fun d δ n q => q (δ.set i (some d)) n
theorem wipe_set {σ : L2.St} {i : Nat} {x : Option V} : ∀ {vs : List Nat}, i ∈ vs → wipe (σ.set i x) vs = wipe σ vs
  | v :: vs, h => by
    unfold wipe
    by_cases e : i ∈ vs
    · rw [wipe_set e]
    · have ev : i = v := by
        rcases List.mem_cons.mp h with h | h
        · exact h
        · exact absurd h e
      subst ev
      have : ∀ (σ : L2.St) (ws : List Nat), i ∉ ws → wipe (σ.set i x) ws = (wipe σ ws).set i x := by
        intro σ ws
        induction ws with
        | nil => intro _; rfl
        | cons w ws ih =>
          intro hn
          have h1 : i ≠ w := fun z => hn (by rw [z]; exact List.mem_cons_self)
          have h2 : i ∉ ws := fun z => hn (List.mem_cons_of_mem _ z)
          unfold wipe
          rw [ih h2, List.set_comm _ _ h1]
      rw [this σ vs e, List.set_set]
theorem Rep.put {pn : Addr} {G H : Hp} {n : NS} {σ : L2.St} {δ : DEnv} {i : Nat} {v : V} {d : D} (R : Rep M pn G n σ δ H) (h : Is M G v d) : Rep M pn G n (σ.set i (some v)) (δ.set i (some d)) H := ⟨R.ex, R.pen, R.tab, R.nt, R.pe, R.mu, R.env.set h⟩
theorem dg_of {tg : Expr} {i : Nat} {vs : List Nat} (h : PG X tg (gName i)) (hi : i ∈ vs) : PG X tg (liftG M vs (dgName i)) :=
  PGw h fun v σ H Q ⟨pn, G, n, δ, d, q, R, hi', hg, hQ⟩ => hQ G (σ.set i (some v)) (δ.set i (some d)) n H Adv.refl (R.put hi') (wipe_set hi) hg
def dgNil : DTGs := fun ds δ n q => match ds with | [] => q δ n | _ => False
def dgCons (g : DTG) (gs : DTGs) : DTGs := fun ds δ n q => match ds with | d :: r => g d δ n fun δ' n' => gs r δ' n' q | [] => False
theorem dgs_nil {vs : List Nat} : PGs X [] (liftGs M vs dgNil) := PGsw pgs_nil fun us σ H Q ⟨pn, G, n, δ, ds, q, R, hi, hg, hQ⟩ => by
  cases ds with
  | nil =>
    cases us with
    | nil => exact ⟨rfl, hQ G σ δ n H Adv.refl R rfl hg⟩
    | cons _ _ => simp only [IsL] at hi
  | cons _ _ => exact hg.elim
theorem dgs_cons {e : Expr} {es : List Expr} {vs : List Nat} {g : DTG} {gs : DTGs} (h1 : PG X e (liftG M vs g)) (h2 : PGs X es (liftGs M vs gs)) (hs : (assignEach (e :: es) X.env).map (·.2) = assign e X.env :: (assignEach es X.env).map (·.2) := by rfl) : PGs X (e :: es) (liftGs M vs (dgCons g gs)) :=
  PGsw (pgs_cons h1 h2 hs) fun us σ H Q ⟨pn, G, n, δ, ds, q, R, hi, hg, hQ⟩ => by
    cases ds with
    | nil => exact hg.elim
    | cons d r =>
      cases us with
      | nil => simp only [IsL] at hi
      | cons u ur =>
        simp only [IsL] at hi
        refine ⟨u, ur, rfl, pn, G, n, δ, d, _, R, hi.1, hg, fun G1 σ1 δ1 n1 H1 A1 R1 w1 h1 => ?_⟩
        exact ⟨pn, G1, n1, δ1, r, q, R1, IsL.up A1.ge r ur hi.2, h1, fun G2 σ2 δ2 n2 H2 A2 R2 w2 h2 => hQ G2 σ2 δ2 n2 H2 (R.tr A1 A2) R2 (w2.trans w1) h2⟩
/-- (a, b, ..) = a tuple -/
def dgTup (m : Nat) (gs : DTGs) : DTG := fun d δ n q => match d with | .tup xs => xs.length = m ∧ gs xs δ n q | _ => False
theorem dg_tup {es : List Expr} {k : Nat} {pos : Pos} {m : Nat} {vs : List Nat} {gs : DTGs} (hK : X.K = M.L.K) (hc : X.calm = true) (h : PGs X es (liftGs M vs gs)) (hn : (assignEach es X.env).length = m := by rfl) (hst : (assignEach es X.env).findIdx? (·.1) = none := by rfl) : PG X (.Tuple es k pos) (liftG M vs (dgTup m gs)) :=
  PGw (pg_tup hc h hn hst) fun v σ H Q ⟨pn, G, n, δ, d, q, R, hi, hg, hQ⟩ => by
    cases d with
    | tup xs =>
      simp only [Is] at hi
      obtain ⟨p, us, rfl, h1, h2⟩ := hi
      exact ⟨p, us, rfl, by rw [hK]; exact R.ex.seqT h1, by rw [h2.length]; exact hg.1, pn, G, n, δ, xs, q, R, h2, hg.2, hQ⟩
    | _ => exact hg.elim
/-- target = e -/
def dAsg (f : DTE) (g : DTG) : DTS := fun k δ n => f δ n (fun d n1 => g d δ n1 fun δ' n2 => k.nx δ' n2) k.ex
theorem liftS_asg {f : DTE} {g : DTG} {vs : List Nat} (D₀ : Ends) (σ : L2.St) (H : Hp) (h : liftS M W (dAsg f g) D₀ σ H) : tAsg (liftE M W f) (liftG M vs g) D₀ σ H := by
  obtain ⟨pn, G, n, δ, k, R, hf, s⟩ := h
  refine ⟨pn, G, n, δ, _, k.ex, R, hf, fun G1 v d n1 H1 A1 R1 i1 h1 => ?_, s.xe⟩
  exact ⟨pn, G1, n1, δ, d, _, R1, i1, h1, fun G2 σ2 δ2 n2 H2 A2 R2 _ h2 => s.nx G2 σ2 δ2 n2 H2 (R.tr A1 A2) R2 h2⟩
theorem ds_asg {st : Stmt} {f : DTE} {g : DTG} {vs : List Nat} (h : PS X st (tAsg (liftE M W f) (liftG M vs g))) : PS X st (liftS M W (dAsg f g)) := PSw h liftS_asg
theorem liftS_set {f : DTE} {i : Nat} (D₀ : Ends) (σ : L2.St) (H : Hp) (h : liftS M W (dAsg f (dgName i)) D₀ σ H) : tAsg (liftE M W f) (gName i) D₀ σ H := by
  obtain ⟨pn, G, n, δ, k, R, hf, s⟩ := h
  refine ⟨pn, G, n, δ, _, k.ex, R, hf, fun G1 v d n1 H1 A1 R1 i1 h1 => ?_, s.xe⟩
  exact s.nx G1 (σ.set i (some v)) (δ.set i (some d)) n1 H1 A1 (R1.put i1) h1
theorem ds_set {st : Stmt} {f : DTE} {i : Nat} (h : PS X st (tAsg (liftE M W f) (gName i))) : PS X st (liftS M W (dAsg f (dgName i))) := PSw h liftS_set
/-- a, b = x, y -/
def dPar (i j : Nat) (f : DTA) : DTS := fun k δ n => f δ n (fun ds n1 => match ds with | [x, y] => k.nx ((δ.set i (some x)).set j (some y)) n1 | _ => False) k.ex
theorem ds_par {st : Stmt} {f : DTA} {i j : Nat} (h : PS X st (tPar i j (liftA M W f))) : PS X st (liftS M W (dPar i j f)) :=
  PSw h fun D₀ σ H ⟨pn, G, n, δ, k, R, hf, s⟩ => by
    refine ⟨pn, G, n, δ, _, k.ex, R, hf, fun G1 vs ds n1 H1 A1 R1 i1 h1 => ?_, s.xe⟩
    match ds, vs, i1, h1 with
    | [x, y], [v, w], i1, h1 =>
      simp only [IsL] at i1
      exact ⟨v, w, rfl, s.nx G1 _ _ n1 H1 A1 ((R1.put i1.1).put i1.2.1) h1⟩
    | [x, y], [], i1, _ => simp only [IsL] at i1
    | [x, y], [_], i1, _ => simp only [IsL, and_false] at i1
    | [x, y], _ :: _ :: _ :: _, i1, _ => simp only [IsL, and_false] at i1
    | [], _, _, h1 => exact h1.elim
    | [_], _, _, h1 => exact h1.elim
    | _ :: _ :: _ :: _, _, _, h1 => exact h1.elim
/-! ### while -/
def dWhile (c : DTT) (body : DTS) : DTS := fun k δ n => ∃ Wf : Nat → DEnv → NS → Prop, (∃ m, Wf m δ n) ∧ ∀ m δ n, Wf m δ n → c δ n (fun b n1 => match b with
  | true => ∃ N : DEnv → NS → Prop, (∀ δ' n', N δ' n' → ∃ m', m' < m ∧ Wf m' δ' n') ∧ body { k with nx := N, ct := N, bk := k.nx } δ n1
  | false => k.nx δ n1) k.ex
theorem ds_while {c : Expr} {body : List Stmt} {pos : Pos} {tc : DTT} {f : DTS} (hp : PassesOwn (model X.prog X.w) X.A X.env X.xe) (hc : PT X c (liftT M W tc)) (hb : PSs X body (liftS M W f)) : PS X (.While c body [] pos) (liftS M W (dWhile tc f)) :=
  PSw (ps_while hp hc hb) fun D₀ σ H ⟨pn, G, n, δ, k, R, ⟨Wf, ⟨m0, w0⟩, hw⟩, s⟩ => by
    refine ⟨fun m σ' H' => ∃ G' n' δ', Rep M pn G' n' σ' δ' H' ∧ Adv pn G H G' H' ∧ Wf m δ' n', ⟨m0, G, n, δ, R, Adv.refl, w0⟩, ?_⟩
    rintro m σ1 H1 ⟨G1, n1, δ1, R1, A1, w1⟩
    refine ⟨pn, G1, n1, δ1, _, k.ex, R1, hw m δ1 n1 w1, fun G2 b n2 H2 A2 R2 h2 => ?_, (s.on R A1).xe⟩
    have A12 := R.tr A1 A2
    cases b with
    | true =>
      obtain ⟨N, hN, hb⟩ := h2
      refine iteT ⟨fun σ' H' => ∃ G' n' δ', Rep M pn G' n' σ' δ' H' ∧ Adv pn G H G' H' ∧ N δ' n', fun σ' H' ⟨G', n', δ', R', A', h'⟩ => ?_, pn, G2, n2, δ1, _, R2, hb, ?_⟩
      · obtain ⟨m', hm, w'⟩ := hN δ' n' h'
        exact ⟨m', hm, G', n', δ', R', A', w'⟩
      · have s2 := s.on R A12
        exact ⟨fun G' σ' δ' n' H' A' R' h' => ⟨G', n', δ', R', R.tr A12 A', h'⟩, s2.rt, fun G' σ' δ' n' H' A' R' h' => s2.nx G' σ' δ' n' H' A' R' h', fun G' σ' δ' n' H' A' R' h' => ⟨G', n', δ', R', R.tr A12 A', h'⟩, s2.ex⟩
    | false => exact iteF (s.nx G2 σ1 δ1 n2 H2 A12 R2 h2)
/-! ### what is walked: its items -/
structure Yields (M : LK) (pn : Addr) (G0 H0 : Hp) (J : It) (ds : List D) : Prop where
  go : ∀ i G H n σ δ, Ext G0 G → Rep M pn G n σ δ H → ∀ d, ds[i]? = some d → J.go i H ∧ ∀ x H', J.yld i H x H' → ∃ G', Adv pn G H G' H' ∧ Rep M pn G' n σ δ H' ∧ Is M G' x d
  stop : ∀ G H n σ δ, Ext G0 G → Rep M pn G n σ δ H → J.stop ds.length H
abbrev DTI := DEnv → NS → (List D → NS → Prop) → DX → Prop
def liftI (M : LK) (W : WX) (f : DTI) : TI := fun σ H R => ∃ pn G n δ q e, Rep M pn G n σ δ H ∧ f δ n q e ∧
  (∀ G' ds n' H' J, Adv pn G H G' H' → Rep M pn G' n' σ δ H' → Yields M pn G' H' J ds → q ds n' → R J H') ∧ XEnd M W pn G σ δ H e
theorem PIw {X : Cx} {tg e : Expr} {t t' : TI} (h : PI X tg e t) (w : ∀ σ H Q, t' σ H Q → t σ H Q) : PI X tg e t' := ⟨fun pins s σ H R I q => h.run pins s σ H R I (w _ _ _ q)⟩
def dForL (g : DTG) (body : DTS) : List D → DEnds → DEnv → NS → Prop
  | [], k, δ, n => k.nx δ n
  | d :: ds, k, δ, n => g d δ n fun δ' n' => body { k with nx := fun δ2 n2 => dForL g body ds k δ2 n2, ct := fun δ2 n2 => dForL g body ds k δ2 n2, bk := k.nx } δ' n'
def dFor (it : DTI) (g : DTG) (body : DTS) : DTS := fun k δ n => it δ n (fun ds n1 => dForL g body ds k δ n1) k.ex
theorem ds_for {tg iter : Expr} {body : List Stmt} {pos : Pos} {it : DTI} {g : DTG} {vs : List Nat} {f : DTS} (hp : PassesOwn (model X.prog X.w) X.A X.env X.xe) (hc : X.calm = true) (hi : PI X tg iter (liftI M W it)) (hg : PG X tg (liftG M vs g)) (hb : PSs X body (liftS M W f))
    (hs : ∀ x, foldedSetIterable iter X.env x = pure x := by intro _; rfl) : PS X (.For tg iter body [] pos) (liftS M W (dFor it g f)) :=
  PSw (ps_for hp hc hi hg hb hs) fun D₀ σ H ⟨pn, G, n, δ, k, R, hf, s⟩ => by
    refine ⟨pn, G, n, δ, _, k.ex, R, hf, fun G1 ds n1 H1 J A1 R1 Y h1 => ?_, s.xe⟩
    refine ⟨fun i m σ' H' => m = ds.length - i ∧ i ≤ ds.length ∧ ∃ G' n' δ', Rep M pn G' n' σ' δ' H' ∧ Adv pn G1 H1 G' H' ∧ dForL g f (ds.drop i) k δ' n', ⟨ds.length, rfl, Nat.zero_le _, G1, n1, δ, R1, Adv.refl, h1⟩, ?_⟩
    rintro i m σ2 H2 ⟨rfl, hi, G2, n2, δ2, R2, A2, h2⟩
    have A02 := R.tr A1 A2
    by_cases hlt : i < ds.length
    · obtain ⟨d, hd⟩ : ∃ d, ds[i]? = some d := ⟨ds[i], by simp [hlt]⟩
      have e1 : ds.drop i = d :: ds.drop (i + 1) := by
        rw [List.drop_eq_getElem_cons hlt]
        congr 1
        rw [List.getElem?_eq_getElem hlt] at hd
        exact Option.some.inj hd
      rw [e1] at h2
      obtain ⟨g1, g2⟩ := Y.go i G2 H2 n2 σ2 δ2 A2.ge R2 d hd
      refine .inr ⟨g1, fun σ' H' => ∃ G' n' δ', Rep M pn G' n' σ' δ' H' ∧ Adv pn G1 H1 G' H' ∧ dForL g f (ds.drop (i + 1)) k δ' n', fun σ' H' h' => ⟨ds.length - (i + 1), by omega, rfl, hlt, h'⟩, fun x H3 hy => ?_⟩
      obtain ⟨G3, A3, R3, i3⟩ := g2 x H3 hy
      refine ⟨pn, G3, n2, δ2, d, _, R3, i3, h2, fun G4 σ4 δ4 n4 H4 A4 R4 _ h4 => ?_⟩
      have A24 := R2.tr A3 A4
      have s4 := s.on R (R.tr A02 A24)
      exact ⟨pn, G4, n4, δ4, _, R4, h4, ⟨fun G' σ' δ' n' H' A' R' h' => ⟨G', n', δ', R', R1.tr (R1.tr A2 A24) A', h'⟩, s4.rt, fun G' σ' δ' n' H' A' R' h' => s4.nx G' σ' δ' n' H' A' R' h', fun G' σ' δ' n' H' A' R' h' => ⟨G', n', δ', R', R1.tr (R1.tr A2 A24) A', h'⟩, s4.ex⟩⟩
    · have e : i = ds.length := by omega
      subst e
      rw [List.drop_length] at h2
      exact .inl ⟨Y.stop G2 H2 n2 σ2 δ2 A2.ge R2, s.nx G2 σ2 δ2 n2 H2 A02 R2 h2⟩
/-- the items of a list, a tuple, a text -/
def items : D → Option (List D)
  | .lst xs => some xs
  | .tup xs => some xs
  | .str l => some (l.map fun c => .str [c])
  | _ => none
def diSeq (f : DTE) : DTI := fun δ n q e => f δ n (fun d n1 => match items d with | some ds => q ds n1 | none => False) e
theorem yields_list {pn a : Addr} {G0 H0 : Hp} {vs : List V} {ds : List D} (h : G0 a = some (.lst vs)) (hi : IsL M G0 vs ds) : Yields M pn G0 H0 (Itl M.L.K a) ds where
  go := fun i G H n σ δ A R d hd => by
    have e : H a = some (.lst vs) := R.ex _ _ (A _ _ h)
    obtain ⟨v, h1, h2⟩ := IsL.get (IsL.up A ds vs hi) hd
    refine ⟨⟨vs, v, SqL.of e, h1⟩, fun x H' y => ?_⟩
    obtain ⟨rfl, y⟩ := y
    have ex := y vs (SqL.of e)
    rw [h1] at ex
    cases ex
    exact ⟨G, Adv.refl, R, h2⟩
  stop := fun G H n σ δ A R => ⟨vs, SqL.of (R.ex _ _ (A _ _ h)), by rw [hi.length]; exact Nat.le_refl _⟩
theorem yields_tup {pn a : Addr} {G0 H0 : Hp} {vs : List V} {ds : List D} (h : SqT M.L.K G0 a vs) (hi : IsL M G0 vs ds) : Yields M pn G0 H0 (Itt M.L.K a) ds where
  go := fun i G H n σ δ A R d hd => by
    have e : SqT M.L.K H a vs := R.ex.seqT (Ext.seqT A h)
    obtain ⟨v, h1, h2⟩ := IsL.get (IsL.up A ds vs hi) hd
    refine ⟨⟨vs, v, e, h1⟩, fun x H' y => ?_⟩
    obtain ⟨rfl, y⟩ := y
    have ex := y vs e
    rw [h1] at ex
    cases ex
    exact ⟨G, Adv.refl, R, h2⟩
  stop := fun G H n σ δ A R => ⟨vs, R.ex.seqT (Ext.seqT A h), by rw [hi.length]; exact Nat.le_refl _⟩
theorem yields_str {pn : Addr} {G0 H0 : Hp} {l : List Nat} : Yields M pn G0 H0 (Its (S l)) (l.map fun c => .str [c]) where
  go := fun i G H n σ δ A R d hd => by
    rw [List.getElem?_map] at hd
    cases e : l[i]? with
    | none => rw [e] at hd; cases hd
    | some c =>
      rw [e] at hd
      cases hd
      have hlt := (List.getElem?_eq_some_iff.mp e).1
      refine ⟨by simpa [Its, S] using hlt, fun x H' y => ?_⟩
      obtain ⟨rfl, c', h1, rfl⟩ := y
      have h1' : l[i]? = some c' := by simpa [S] using h1
      rw [e] at h1'
      cases h1'
      exact ⟨G, Adv.refl, R, by simp only [Is]⟩
  stop := fun G H n σ δ A R => by simp [Its, S]
/-- lo, lo + 1, .. -/
def rangeD (lo : Int) (n : Nat) : List D := (List.range n).map fun i => .int (lo + (i : Nat))
theorem yields_range {pn : Addr} {G0 H0 : Hp} {lo : Int} {m : Nat} : Yields M pn G0 H0 (Itr lo m) (rangeD lo m) where
  go := fun i G H n σ δ A R d hd => by
    have hlt : i < m := by
      have := (List.getElem?_eq_some_iff.mp hd).1
      simpa [rangeD] using this
    have e : d = .int (lo + (i : Nat)) := by
      unfold rangeD at hd
      rw [List.getElem?_map, List.getElem?_range hlt] at hd
      exact (Option.some.inj hd).symm
    refine ⟨hlt, fun x H' y => ?_⟩
    obtain ⟨rfl, rfl⟩ := y
    exact ⟨G, Adv.refl, R, by rw [e]; simp only [Is]⟩
  stop := fun G H n σ δ A R => by show m ≤ (rangeD lo m).length; simp [rangeD]
theorem yields_enum {pn a : Addr} {G0 H0 : Hp} {vs : List V} {ds : List D} (h : G0 a = some (.lst vs)) (hi : IsL M G0 vs ds) : Yields M pn G0 H0 (Ite M.L.K a) (ds.zipIdx.map fun p => .tup [.int (p.2 : Nat), p.1]) where
  go := fun i G H n σ δ A R d hd => by
    have e : H a = some (.lst vs) := R.ex _ _ (A _ _ h)
    rw [List.getElem?_map, List.getElem?_zipIdx] at hd
    cases e1 : ds[i]? with
    | none => rw [e1] at hd; cases hd
    | some d1 =>
      rw [e1] at hd
      cases hd
      obtain ⟨v, h1, h2⟩ := IsL.get (IsL.up A ds vs hi) e1
      refine ⟨⟨vs, v, SqL.of e, h1⟩, fun x H' y => ?_⟩
      obtain ⟨T, u, rfl, hT, rfl, y⟩ := y
      have ex := y vs (SqL.of e)
      rw [h1] at ex
      cases ex
      obtain ⟨R2, A2⟩ := R.lay (o := .tup [.int (i : Nat), v]) hT notTbl_tup
      refine ⟨_, A2, R2, ?_⟩
      simp only [Is, IsL, Option.map, Nat.zero_add]
      exact ⟨T, _, rfl, SqT.of upd_same, by simp only [IsL, Is]; exact ⟨trivial, Is.up A2.ge d1 v h2, trivial⟩⟩
  stop := fun G H n σ δ A R => ⟨vs, SqL.of (R.ex _ _ (A _ _ h)), by simp [hi.length]⟩
theorem yields_zip {pn a b : Addr} {G0 H0 : Hp} {vs us : List V} {ds es : List D} (h : G0 a = some (.lst vs)) (hi : IsL M G0 vs ds) (h' : G0 b = some (.lst us)) (hi' : IsL M G0 us es) : Yields M pn G0 H0 (Itz M.L.K a b) ((ds.zip es).map fun p => .tup [p.1, p.2]) where
  go := fun i G H n σ δ A R d hd => by
    have e : H a = some (.lst vs) := R.ex _ _ (A _ _ h)
    have e' : H b = some (.lst us) := R.ex _ _ (A _ _ h')
    rw [List.getElem?_map] at hd
    cases e1 : (ds.zip es)[i]? with
    | none => rw [e1] at hd; cases hd
    | some p =>
      rw [e1] at hd
      cases hd
      obtain ⟨z1, z2⟩ := List.getElem?_zip_eq_some.mp e1
      obtain ⟨v, h1, h2⟩ := IsL.get (IsL.up A ds vs hi) z1
      obtain ⟨u, h3, h4⟩ := IsL.get (IsL.up A es us hi') z2
      refine ⟨⟨vs, us, v, u, SqL.of e, SqL.of e', h1, h3⟩, fun x H' y => ?_⟩
      obtain ⟨T, x1, y1, rfl, hT, rfl, y, y'⟩ := y
      have ex := y vs (SqL.of e)
      rw [h1] at ex
      cases ex
      have ex' := y' us (SqL.of e')
      rw [h3] at ex'
      cases ex'
      obtain ⟨R2, A2⟩ := R.lay (o := .tup [v, u]) hT notTbl_tup
      refine ⟨_, A2, R2, ?_⟩
      simp only [Is]
      exact ⟨T, _, rfl, SqT.of upd_same, by simp only [IsL]; exact ⟨Is.up A2.ge _ v h2, Is.up A2.ge _ u h4, trivial⟩⟩
  stop := fun G H n σ δ A R => ⟨vs, us, SqL.of (R.ex _ _ (A _ _ h)), SqL.of (R.ex _ _ (A _ _ h')), by
    have e1 := hi.length
    have e2 := hi'.length
    rw [List.length_map, List.length_zip]
    omega⟩
theorem di_list {tg l : Expr} {f : DTE} (hK : X.K = M.L.K) (h : PE X l (liftE M W f)) : PI X tg l (liftI M W (diSeq f)) := by
  have key : PI X tg l (fun σ H R => liftE M W f σ H fun x H1 => (∃ a, x = .ref a ∧ (∃ xs, SqL X.K H1 a xs) ∧ R (Itl X.K a) H1) ∨ (∃ a, x = .ref a ∧ (∃ xs, SqT X.K H1 a xs) ∧ R (Itt X.K a) H1) ∨ (∃ z, x = .str z ∧ R (Its z) H1)) := by
    refine ⟨fun pins s σ H R I h' => ?_⟩
    refine thn (h.run pins s σ H _ I h') fun v s1 ⟨x, H1, I1, r1, q1⟩ => ?_
    rcases q1 with ⟨a, e, ⟨xs, hq⟩, q⟩ | ⟨a, e, ⟨xs, hq⟩, q⟩ | ⟨z, e, q⟩
    · subst e
      cases r1
      obtain ⟨its, rv, p, hz⟩ := I1.list hq
      refine wpAny_pyIter_list p.isList ?_
      refine ⟨s1.heap.objs.size, [s1.heap.objs.size], _, _, H1, rfl, I1.kept (t' := s1.toks) fun b o e => Heap.get?_push_of_some _ e, turn_list a _, ⟨_, Heap.get?_push_size _ rfl, rfl, rfl⟩, fun b hb => ?_, q⟩
      have e : b = s1.heap.objs.size := by simpa using hb
      subst e
      exact I1.fpOk (Nat.le_refl _) (I1.hok.fresh (Nat.le_refl _))
    · subst e
      cases r1
      obtain ⟨its, rv, p, hz⟩ := I1.tuple hq
      refine wpAny_pyIter_tuple (show s1.heap.IsTuple a its.toArray from p) ?_
      refine ⟨s1.heap.objs.size, [s1.heap.objs.size], _, _, H1, rfl, I1.kept (t' := s1.toks) fun b o e => Heap.get?_push_of_some _ e, turn_tuple a _, ⟨_, Heap.get?_push_size _ rfl, rfl, rfl⟩, fun b hb => ?_, q⟩
      have e : b = s1.heap.objs.size := by simpa using hb
      subst e
      exact I1.fpOk (Nat.le_refl _) (I1.hok.fresh (Nat.le_refl _))
    · subst e
      obtain ⟨t, rfl⟩ := r1
      cases ha : z.cps.all (· < 128)
      · exact wpAny_pyIter_wide ha (pi_one (tk := s1.toks) I1 _ (turn_str _ z t "str_iterator" (.inr rfl)) ⟨_, Heap.get?_push_size _ rfl, rfl, rfl⟩ q)
      · exact wpAny_pyIter_ascii ha (pi_one (tk := s1.toks) I1 _ (turn_str _ z t "str_ascii_iterator" (.inl rfl)) ⟨_, Heap.get?_push_size _ rfl, rfl, rfl⟩ q)
  refine PIw key fun σ H R' ⟨pn, G, n, δ, q, e, R, hf, hQ, hX⟩ => ⟨pn, G, n, δ, _, e, R, hf, fun G1 v d n1 H1 A1 R1 i1 h1 => ?_, hX⟩
  rw [hK]
  cases d with
  | lst xs =>
    simp only [Is] at i1
    obtain ⟨p, vs, rfl, h2, h3⟩ := i1
    exact .inl ⟨p, rfl, ⟨vs, SqL.of (R1.ex _ _ h2)⟩, hQ G1 xs n1 H1 _ A1 R1 (yields_list h2 h3) h1⟩
  | tup xs =>
    simp only [Is] at i1
    obtain ⟨p, vs, rfl, h2, h3⟩ := i1
    exact .inr (.inl ⟨p, rfl, ⟨vs, R1.ex.seqT h2⟩, hQ G1 xs n1 H1 _ A1 R1 (yields_tup h2 h3) h1⟩)
  | str l =>
    simp only [Is] at i1
    exact .inr (.inr ⟨S l, i1, hQ G1 _ n1 H1 _ A1 R1 yields_str h1⟩)
  | _ => exact h1.elim
def diRange1 (f : DTA) : DTI := fun δ n q e => f δ n (fun xs n1 => match xs with | [.int j] => j < 2 ^ 62 ∧ -(2 ^ 62) ≤ j ∧ q (rangeD 0 j.toNat) n1 | _ => False) e
def diRange2 (f : DTA) : DTI := fun δ n q e => f δ n (fun xs n1 => match xs with | [.int i, .int j] => (-(2 ^ 62) ≤ i ∧ i < 2 ^ 62 ∧ -(2 ^ 62) ≤ j ∧ j < 2 ^ 62) ∧ q (rangeD i (j - i).toNat) n1 | _ => False) e
theorem IsL.ints {M : LK} {G : Hp} : ∀ {is : List Int} {vs : List V}, IsL M G vs (is.map .int) → vs = is.map .int
  | [], [], _ => rfl
  | i :: is, v :: vs, h => by
    simp only [List.map_cons, IsL, Is] at h ⊢
    rw [h.1, IsL.ints h.2]
  | [], _ :: _, h => by simp only [List.map_nil, IsL] at h
  | _ :: _, [], h => by simp only [List.map_cons, IsL] at h
theorem di_range1 {tg : Expr} {e : Expr} {f : DTA} (h : PI X tg e (iRng1 (liftA M W f))) : PI X tg e (liftI M W (diRange1 f)) :=
  PIw h fun σ H R' ⟨pn, G, n, δ, q, e, R, hf, hQ, hX⟩ => by
    refine ⟨pn, G, n, δ, _, e, R, hf, fun G1 vs ds n1 H1 A1 R1 i1 h1 => ?_, hX⟩
    match ds, h1 with
    | [.int j], h1 =>
      obtain rfl := IsL.ints (is := [j]) i1
      exact ⟨j, rfl, h1.2.1, h1.1, hQ G1 _ n1 H1 _ A1 R1 yields_range h1.2.2⟩
theorem di_range2 {tg : Expr} {e : Expr} {f : DTA} (h : PI X tg e (iRng2 (liftA M W f))) : PI X tg e (liftI M W (diRange2 f)) :=
  PIw h fun σ H R' ⟨pn, G, n, δ, q, e, R, hf, hQ, hX⟩ => by
    refine ⟨pn, G, n, δ, _, e, R, hf, fun G1 vs ds n1 H1 A1 R1 i1 h1 => ?_, hX⟩
    match ds, h1 with
    | [.int i, .int j], h1 =>
      obtain rfl := IsL.ints (is := [i, j]) i1
      exact ⟨i, j, rfl, h1.1, hQ G1 _ n1 H1 _ A1 R1 yields_range h1.2⟩
def diEnum (f : DTA) : DTI := fun δ n q e => f δ n (fun xs n1 => match xs with | [.lst ds] => q (ds.zipIdx.map fun p => .tup [.int (p.2 : Nat), p.1]) n1 | _ => False) e
theorem di_enum {tg : Expr} {e : Expr} {f : DTA} (h : PI X tg e (iEnum M.L.K (liftA M W f))) : PI X tg e (liftI M W (diEnum f)) :=
  PIw h fun σ H R' ⟨pn, G, n, δ, q, e, R, hf, hQ, hX⟩ => by
    refine ⟨pn, G, n, δ, _, e, R, hf, fun G1 vs ds n1 H1 A1 R1 i1 h1 => ?_, hX⟩
    match ds, vs, i1, h1 with
    | [.lst xs], [v], i1, h1 =>
      simp only [IsL, Is] at i1
      obtain ⟨⟨p, vs, rfl, h2, h3⟩, _⟩ := i1
      exact ⟨p, vs, rfl, SqL.of (R1.ex _ _ h2), hQ G1 _ n1 H1 _ A1 R1 (yields_enum h2 h3) h1⟩
    | [.lst xs], [], i1, _ => simp only [IsL] at i1
    | [.lst xs], _ :: _ :: _, i1, _ => simp only [IsL, and_false] at i1
def diZip (f : DTA) : DTI := fun δ n q e => f δ n (fun xs n1 => match xs with | [.lst ds, .lst es] => q ((ds.zip es).map fun p => .tup [p.1, p.2]) n1 | _ => False) e
theorem di_zip {tg : Expr} {e : Expr} {f : DTA} (h : PI X tg e (iZip M.L.K (liftA M W f))) : PI X tg e (liftI M W (diZip f)) :=
  PIw h fun σ H R' ⟨pn, G, n, δ, q, e, R, hf, hQ, hX⟩ => by
    refine ⟨pn, G, n, δ, _, e, R, hf, fun G1 vs ds n1 H1 A1 R1 i1 h1 => ?_, hX⟩
    match ds, vs, i1, h1 with
    | [.lst xs, .lst ys], [v, u], i1, h1 =>
      simp only [IsL, Is] at i1
      obtain ⟨⟨p, vs, rfl, h2, h3⟩, ⟨p', vs', rfl, h2', h3'⟩, _⟩ := i1
      exact ⟨p, p', vs, vs', rfl, SqL.of (R1.ex _ _ h2), SqL.of (R1.ex _ _ h2'), hQ G1 _ n1 H1 _ A1 R1 (yields_zip h2 h3 h2' h3') h1⟩
    | [.lst xs, .lst ys], [], i1, _ => simp only [IsL] at i1
    | [.lst xs, .lst ys], [_], i1, _ => simp only [IsL, and_false] at i1
    | [.lst xs, .lst ys], _ :: _ :: _ :: _, i1, _ => simp only [IsL, and_false] at i1
end
end DL

set_option Elab.async false
set_option linter.all false
set_option maxRecDepth 100000
set_option maxHeartbeats 4000000
set_option autoImplicit false
/-! The data layer: comprehensions, defs, operations by values. -/
namespace DL
open PySem PySem.Spec PyProof.Rows L2
section
variable {X : Cx} {M : LK} {W : WX} {pn : Addr} {G G1 H H1 : Hp} {n : NS} {σ : L2.St} {δ : DEnv}
def noX : DX := fun _ _ _ _ _ => False
def W0 : WX := fun _ _ _ _ => False
theorem XEnd.no {e : DX} (h : ∀ δ C ns ds n, ¬ e δ C ns ds n) : XEnd M W pn G σ δ H e := fun G' C a ns ds n' H' A' R' hx q => (h _ C ns ds n' q).elim
theorem noX_no : ∀ δ C ns ds n, ¬ noX δ C ns ds n := fun _ _ _ _ _ h => h
theorem Rep.wipe {vs : List Nat} (R : Rep M pn G n σ δ H) : Rep M pn G n (L2.wipe σ vs) (wipeD δ vs) H := by
  refine ⟨R.ex, R.pen, R.tab, R.nt, R.pe, R.mu, ?_⟩
  have E := R.env
  clear R
  induction vs with
  | nil => exact E
  | cons v vs ih =>
    refine ⟨by unfold L2.wipe wipeD; simp [ih.len], fun i d e => ?_⟩
    unfold wipeD at e
    unfold L2.wipe
    by_cases hv : v = i
    · subst hv
      have := getO e
      cases this
    · rw [List.getElem?_set_ne hv] at e ⊢
      exact ih.at_ i d e
theorem Rep.env_of {σ' : L2.St} {δ' : DEnv} (R : Rep M pn G n σ δ H) (E : EnvIs M G σ' δ') : Rep M pn G n σ' δ' H := ⟨R.ex, R.pen, R.tab, R.nt, R.pe, R.mu, E⟩
theorem wipe_wipe {σ : L2.St} {ws : List Nat} : ∀ {vs : List Nat}, (∀ v ∈ vs, v ∈ ws) → L2.wipe (L2.wipe σ vs) ws = L2.wipe σ ws
  | [], _ => rfl
  | v :: vs, h => by
    rw [show L2.wipe σ (v :: vs) = (L2.wipe σ vs).set v none from rfl, wipe_set (h v List.mem_cons_self), wipe_wipe fun u hu => h u (List.mem_cons_of_mem _ hu)]
def dYes : DTT := fun _ n q _ => q true n
theorem PTsw {X : Cx} {e : List Expr} {t t' : TT} (h : PTs X e t) (w : ∀ σ H Q, t' σ H Q → t σ H Q) : PTs X e t' := ⟨fun pins s σ H Q I q => h.run pins s σ H Q I (w _ _ _ q)⟩
theorem dts_nil : PTs X [] (liftT M W dYes) := PTsw pts_nil fun σ H Q ⟨pn, G, n, δ, q, e, R, hf, hQ, hX⟩ => hQ G true n H Adv.refl R hf
theorem dts_one {c : Expr} {f : DTT} (h : PT X c (liftT M W f)) : PTs X [c] (liftT M W f) := pts_one h
/-- m' holds all that m holds -/
def Mle (m m' : Addr → Option MO) : Prop := ∀ a o, m a = some o → m' a = some o
/-- [te for g in ds if tt]; what is made so far stands among the objects that may change -/
def dLcL (g : DTG) (tt : DTT) (te : DTE) (vs : List Nat) : List D → List D → DEnv → NS → (List D → NS → Prop) → Prop
  | [], acc, _, n, q => q acc n
  | d :: ds, acc, δ, n, q => acc.length < 100000 ∧ ∀ m, Mle n.mu m → g d (wipeD δ vs) ⟨n.at_, m⟩ fun δ2 n0 => tt δ2 n0 (fun b n1 => match b with
    | true => te δ2 n1 (fun y n2 => n2.mu = m ∧ dLcL g tt te vs ds (acc ++ [y]) δ ⟨n2.at_, n.mu⟩ q) noX
    | false => n1.mu = m ∧ dLcL g tt te vs ds acc δ ⟨n1.at_, n.mu⟩ q) noX
def dLc (it : DTI) (g : DTG) (tt : DTT) (te : DTE) (vs : List Nat) : DTE := fun δ n q e => it δ n (fun ds n1 => dLcL g tt te vs ds [] δ n1 fun ys n2 => q (.lst ys) n2) e
theorem liftE_lc {it : DTI} {g : DTG} {tt : DTT} {te : DTE} {vs : List Nat} (σ : L2.St) (H : Hp) (Q : VK) (h : liftE M W (dLc it g tt te vs) σ H Q) : tLc (liftI M W it) (liftG M vs g) (liftT M W0 tt) (liftE M W0 te) vs σ H Q := by
  obtain ⟨pn, G, n, δ, q, e, R, hf, hQ, hX⟩ := h
  refine ⟨pn, G, n, δ, _, e, R, hf, fun G1 ds n1 H1 J A1 R1 Y h1 => ?_, hX⟩
  intro Dd hD
  have md := R1.munone hD
  obtain ⟨RD, AD⟩ := R1.mak (o := .lst []) (u := .lst []) hD (by simp only [MIs, IsL])
  refine ⟨fun i m H' => m = ds.length - i ∧ i ≤ ds.length ∧ ∃ (G' : Hp) (n' : NS) (acc : List D), n'.mu Dd = none ∧ Rep M pn G' ⟨n'.at_, mup n'.mu Dd (some (.lst acc))⟩ σ δ H' ∧ Adv pn G1 H1 G' H' ∧ dLcL g tt te vs (ds.drop i) acc δ n' fun ys n2 => q (.lst ys) n2,
    ⟨ds.length, rfl, Nat.zero_le _, G1, n1, [], md, RD, AD, h1⟩, ?_⟩
  rintro i m H2 ⟨rfl, hi, G2, n2, acc, md2, R2, A2, h2⟩
  by_cases hlt : i < ds.length
  · obtain ⟨d, hd⟩ : ∃ d, ds[i]? = some d := ⟨ds[i], by simp [hlt]⟩
    have e1 : ds.drop i = d :: ds.drop (i + 1) := by
      rw [List.drop_eq_getElem_cons hlt]
      congr 1
      rw [List.getElem?_eq_getElem hlt] at hd
      exact Option.some.inj hd
    rw [e1] at h2
    obtain ⟨hlen, h2⟩ := h2
    obtain ⟨g1, g2⟩ := Y.go i G2 H2 _ σ δ A2.ge R2 d hd
    refine .inr ⟨g1, fun H' => ∃ (G' : Hp) (n' : NS) (acc : List D), n'.mu Dd = none ∧ Rep M pn G' ⟨n'.at_, mup n'.mu Dd (some (.lst acc))⟩ σ δ H' ∧ Adv pn G1 H1 G' H' ∧ dLcL g tt te vs (ds.drop (i + 1)) acc δ n' fun ys n2 => q (.lst ys) n2,
      fun H' h' => ⟨ds.length - (i + 1), by omega, rfl, hlt, h'⟩, fun x H3 hy => ?_⟩
    obtain ⟨G3, A3, R3, i3⟩ := g2 x H3 hy
    have h2 := h2 (mup n2.mu Dd (some (.lst acc))) (fun a o e => by rw [mup_ne (fun z => by rw [z, md2] at e; cases e)]; exact e)
    refine ⟨pn, G3, _, wipeD δ vs, d, _, R3.wipe, i3, h2, fun G4 σ4 δ4 n4 H4 A4 R4 w4 h4 => ?_⟩
    refine ⟨w4.trans (wipe_wipe fun _ h => h), pn, G4, n4, δ4, _, noX, R4, h4, fun G5 b n5 H5 A5 R5 h5 => ?_, XEnd.no noX_no⟩
    have A25 := R2.tr A3 (R3.tr A4 (R4.tr A5 Adv.refl))
    cases b with
    | true =>
      refine iteT ⟨pn, G5, n5, δ4, _, noX, R5, h5, fun G6 v y n6 H6 A6 R6 i6 h6 => ?_, XEnd.no noX_no⟩
      have A26 := R2.tr A25 A6
      obtain ⟨em, h6⟩ := h6
      have R6' : Rep M pn G6 n6 σ δ H6 := R6.env_of (R2.env.up A26)
      have m6 : n6.mu Dd = some (.lst acc) := by rw [em, mup_same]
      obtain ⟨u, hu, iu, _, _⟩ := R6'.mu Dd _ m6
      cases u <;> simp only [MIs] at iu
      rename_i us
      refine ⟨us, hu, by rw [iu.length]; exact Nat.lt_of_lt_of_le hlen (le_line (Nat.le_refl _)), G6, ⟨n6.at_, n2.mu⟩, acc ++ [y], md2, ?_, (R1.tr A2 A26).trans ⟨Ext.refl _⟩, h6⟩
      have := R6'.chg (o := .lst (us ++ [v])) (u := .lst (acc ++ [y])) m6 (by simp only [MIs]; exact IsL.append iu (by simp only [IsL]; exact ⟨i6, trivial⟩))
      rw [em, mup_mup] at this
      exact this
    | false =>
      obtain ⟨em, h5⟩ := h5
      have R5' : Rep M pn G5 n5 σ δ H5 := R5.env_of (R2.env.up A25)
      refine iteF ⟨G5, ⟨n5.at_, n2.mu⟩, acc, md2, ?_, R1.tr A2 A25, h5⟩
      rw [← em]
      exact R5'
  · have e : i = ds.length := by omega
    subst e
    rw [List.drop_length] at h2
    refine .inl ⟨Y.stop G2 H2 _ σ δ A2.ge R2, ?_⟩
    have A02 := R.tr A1 A2
    obtain ⟨G3, R3, A3, i3⟩ := frz_is R2 (a := Dd) (o := .lst acc) mup_same rfl
    have R3' : Rep M pn G3 n2 σ δ H2 := by
      have := R3
      simp only [mup_mup, mup_back md2] at this
      exact this
    exact hQ G3 (.ref Dd) (.lst acc) n2 H2 (A02.trans A3) R3' i3 h2
theorem dp_lc {ex : Expr} {it : DTI} {g : DTG} {tt : DTT} {te : DTE} {vs : List Nat} (h : PE X ex (tLc (liftI M W it) (liftG M vs g) (liftT M W0 tt) (liftE M W0 te) vs)) : PE X ex (liftE M W (dLc it g tt te vs)) := PEw h liftE_lc
/-- y = [..] -/
theorem ds_setLc {st : Stmt} {it : DTI} {g : DTG} {tt : DTT} {te : DTE} {vs : List Nat} {i : Nat} (h : PS X st (tAsg (tLc (liftI M W it) (liftG M vs g) (liftT M W0 tt) (liftE M W0 te) vs) (gName i))) : PS X st (liftS M W (dAsg (dLc it g tt te vs) (dgName i))) :=
  PSw h fun D₀ σ H hl => liftE_lc σ H _ (liftS_set D₀ σ H hl)
end
/-! ### defs -/
/-- a def's promise over trees: arguments, draws so far, what is wanted of a value, of an exception -/
abbrev DY := Addr → List Str → List D → NS → Prop
abbrev DSp := List D → NS → (D → NS → Prop) → DY → Prop
def lift (M : LK) (k : Nat) (s : DSp) : Sp := fun vs H Q E => ∃ pn G n ds q e, Rep M pn G n [] [] H ∧ IsL M G vs ds ∧ ds.length = k ∧ s ds n q e ∧
  (∀ G' v d n' H', Adv pn G H G' H' → Rep M pn G' n' [] [] H' → Is M G' v d → q d n' → Q v H') ∧ (∀ G' C a ns xs n' H', Adv pn G H G' H' → Rep M pn G' n' [] [] H' → XIs M G' a ns xs → e C ns xs n' → E (.ref C) a H')
def startD (N : List Str) (ds : List D) : DEnv := ds.map some ++ List.replicate (N.length - ds.length) none
section
variable {X : Cx} {M : LK} {W : WX} {pn : Addr} {G G1 H H1 : Hp} {n : NS} {σ : L2.St} {δ : DEnv}
theorem Rep.bare (R : Rep M pn G n σ δ H) : Rep M pn G n [] [] H := ⟨R.ex, R.pen, R.tab, R.nt, R.pe, R.mu, ⟨rfl, fun i d e => by simp at e⟩⟩
theorem Rep.back {G' H' : Hp} {n' : NS} (R : Rep M pn G n σ δ H) (R' : Rep M pn G' n' [] [] H') (A : Adv pn G H G' H') : Rep M pn G' n' σ δ H' := ⟨R'.ex, R'.pen, R'.tab, R'.nt, R'.pe, R'.mu, R.env.up A⟩
theorem Rep.start {N : List Str} {vs : List V} {ds : List D} (R : Rep M pn G n [] [] H) (h : IsL M G vs ds) : Rep M pn G n (L2.start N vs) (startD N ds) H := by
  refine ⟨R.ex, R.pen, R.tab, R.nt, R.pe, R.mu, ⟨?_, fun i d e => ?_⟩⟩
  · unfold L2.start startD; simp [h.length]
  · unfold startD at e
    unfold L2.start
    by_cases hi : i < ds.length
    · rw [List.getElem?_append_left (by simpa using hi), List.getElem?_map] at e
      cases ed : ds[i]? with
      | none => rw [ed] at e; cases e
      | some d' =>
        rw [ed] at e
        cases e
        obtain ⟨v, h1, h2⟩ := IsL.get h ed
        refine ⟨v, ?_, h2⟩
        rw [List.getElem?_append_left (by simpa [h.length] using hi), List.getElem?_map, h1]
        rfl
    · rw [List.getElem?_append_right (by simpa using hi), List.getElem?_replicate] at e
      split at e <;> cases e
theorem lift_len {k : Nat} {s : DSp} {vs : List V} {H : Hp} {Q : VK} {E : XK} (h : lift M k s vs H Q E) : vs.length = k := by
  obtain ⟨pn, G, n, ds, q, e, R, hi, hk, _⟩ := h
  rw [hi.length, hk]
/-- THE RULE for a def -/
theorem dfn {P : Program} {w : World} {mg : Str → Option Value} {base : Heap} {x qual : Str} {st : Stmt} {f : Addr} {fd : FuncData} {N ps : List Str} {k : Nat} {s : DSp} (F : Fun M.L.K x qual st f fd) (S : FnScope N ps (defScope st)) (t : DTS)
    (hb : ∀ (cdv : Value) (A : Around) (outer : List Env) (s0 : Shared) (H : Hp) (E : XK), Room k (A.deeper (envOfC qual (defScope st) s0.heap.objs.size f cdv)) →
      PSs (cxOf (L2.CX P w) P w M.L.K mg base N qual (defScope st) f cdv A outer s0 H E) (defBody st) (liftS M (fun cls d _ H' => E cls d H') t))
    (hs : ∀ ds n q e, ds.length = ps.length → s ds n q e → t { nx := fun _ n' => q .non n', rt := q, ex := fun _ => e } (startD N ds) n) :
    FnOk P w M.L.K mg base (L2.CX P w) (k + 1) f fd ps (lift M ps.length s) := by
  refine F.okX S (fun vs H Q E h => lift_len h) (fun cdv A outer s0 H vs Q E hr h => ⟨_, hb cdv A outer s0 H E hr, ?_⟩)
  obtain ⟨pn, G, n, ds, q, e, R, hi, hk, hsp, hQ, hE⟩ := h
  refine ⟨pn, G, n, _, _, R.start hi, hs ds n q e hk hsp, ⟨fun G' σ' δ' n' H' A' R' h' => hQ G' .non .non n' H' A' R'.bare (by simp only [Is]) h', fun G' σ' δ' v d n' H' A' R' i' h' => hQ G' v d n' H' A' R'.bare i' h', fun G' σ' δ' n' H' A' R' h' => h'.elim, fun G' σ' δ' n' H' A' R' h' => h'.elim,
    fun G' σ' δ' C a ns xs n' H' A' R' x' h' => hE G' C a ns xs n' H' A' R'.bare x' h'⟩⟩
/-- a call of a def -/
def dCall (k : Nat) (s : DSp) (dds : List D) (f : DTA) : DTE := fun δ n q e => f δ n (fun xs n1 => (xs ++ dds).length = k ∧ s (xs ++ dds) n1 q (e δ)) e
theorem dp_call {ex : Expr} {k : Nat} {s : DSp} {dvs : List V} {dds : List D} {f : DTA} (h : PE X ex (tCallSD (lift M k s) dvs (fun σ cls d H' => W cls d σ H') (liftA M W f))) (hd : ∀ G, IsL M G dvs dds) : PE X ex (liftE M W (dCall k s dds f)) :=
  PEw h fun σ H Q ⟨pn, G, n, δ, q, e, R, hf, hQ, hX⟩ => by
    refine ⟨pn, G, n, δ, _, e, R, hf, fun G1 vs ds n1 H1 A1 R1 i1 h1 => ?_, hX⟩
    refine ⟨pn, G1, n1, ds ++ dds, q, e δ, R1.bare, IsL.append i1 (hd G1), h1.1, h1.2, fun G2 v d n2 H2 A2 R2 i2 h2 => hQ G2 v d n2 H2 (R.tr A1 A2) (R1.back R2 A2) i2 h2, fun G2 C a ns xs n2 H2 A2 R2 x2 h2 => hX G2 C a ns xs n2 H2 (R.tr A1 A2) (R1.back R2 A2) x2 h2⟩
end
end DL

set_option Elab.async false
set_option linter.all false
set_option maxRecDepth 100000
set_option maxHeartbeats 4000000
set_option autoImplicit false
/-! list(text): a new list of its signs. -/
namespace LS
open PySem PySem.W PySem.Calls PyProof.Rows PyProof.V PySem.Spec
section
variable {prog : Program} {w : World} {A : Around} {E : Value → Shared → Prop} {s : Shared} {x : Str} {t : Tok}
theorem hint_str {Q : Bool → Shared → Prop} (h : Q false s) : wpAny (model prog w) A (Builtin.List.listLengthHint (.str x t)) Q E s := by
  have hT : s.TypeIs (.str x t) "str" := typeIs_str s x t
  unfold Builtin.List.listLengthHint
  refine wpAny_bind (wpAny_specialOf hT PySem.F.slot_str_len.lookup ?_)
  generalize hid : ("str.__len__" : String) = id0
  wp_delta
  rw [show splitId id0 = some ("str", "__len__") from by subst hid; decide +kernel]
  subst hid
  refine wpAny_bind (wpAny_isInstance (T := "str") (b := true) hT (by rw [isSubtype_type]; kernel_rfl) ?_)
  refine wpAny_ite_split (fun hab => absurd hab (by decide)) (fun _ => ?_)
  refine wpAny_ite_split (fun _ => ?_) (fun hab => absurd (by decide +kernel) hab)
  refine wpAny_bind (wpAny_typeOf hT ?_)
  exact wpAny_pure h
theorem extend_str {R : Result → Shared → Prop} (hh : A.handled = none) (S : Addr) (res : Value) (c₀ : Nat) (hS : s.heap.get? S = some { cls := .type "list", data := .seq #[] c₀ })
    (hR : ∀ h' tk acc' c', (∀ b o, b ≠ S → s.heap.get? b = some o → h'.get? b = some o) → h'.get? S = some { cls := .type "list", dict := none, data := .seq acc' c', slots := #[] } → ItemsOf (SignAt x) acc' x.cps.size → R (.ok (.ret res)) { s with heap := h', toks := tk }) (hn : x.cps.size ≤ sizeLine) :
    wpAny (model prog w) A.in1 (Builtin.List.listExtendWith (.ref S) (.str x t) res)
      (fun fin s' => match fin with | .done f => R (.ok f) s' | .again c' => c'.quiet = true ∧ codeAny (model prog w) A c' R s') (fun e s' => R (.error e) s') s := by
  have hSI : S ≠ s.heap.objs.size := Nat.ne_of_lt (Heap.lt_size hS)
  have hSf : S ∉ [s.heap.objs.size] := by simp only [List.mem_cons, List.not_mem_nil, or_false]; exact hSI
  unfold Builtin.List.listExtendWith
  refine wpAny_bind (wpAny_typeOf (T := "str") (typeIs_str s x t) ?_)
  have h1 : Builtin.List.listSameRef (.ref S) (.str x t) = false := rfl
  have h2 : (Value.type "str" == Value.type "list") = false := by decide
  have h3 : (Value.type "str" == Value.type "tuple") = false := by decide
  simp only [h1, h2, h3, Bool.or_false, Bool.false_eq_true, if_false]
  refine wpAny_bind (wpAny_pyIter_str fun oI St W st => ?_)
  have key : ∀ (h : Heap) (c₁ tk : Nat), St 0 h → (∀ b o, b ≠ S → s.heap.get? b = some o → h.get? b = some o) →
      h.get? S = some { cls := .type "list", data := .seq #[] c₁ } → codeAny (model prog w) A (.builtin "list.extend.loop" ⟨[.ref S, .ref s.heap.objs.size, res], []⟩) R { s with heap := h, toks := tk } := by
    intro h c₁ tk hst hk hS₁
    refine codeAny_extend_loopS (W A.in1 hh).toS hn S hSf res x.cps.size 0 _ #[] c₁ rfl (Nat.zero_le _) hst hS₁ (ItemsOf.nil _) fun s' acc' c' hm hS' hacc => ?_
    rw [Moved.eq_with hm]
    refine hR s'.heap s'.toks acc' c' (fun b o hb e => hm.heap b o (fun hmem => ?_) (hk b o hb e)) hS' hacc
    rcases List.mem_cons.mp hmem with e' | hmem
    · exact hb e'
    · exact absurd (Heap.lt_size e) (by rw [List.mem_singleton.mp hmem]; exact Nat.lt_irrefl _)
  have hS₁ := Heap.get?_push_of_some oI hS
  refine wpAny_bind (wpAny_holding (hint_str ?_))
  refine wpAny_ite_split (fun hab => absurd hab (by decide)) (fun _ => wpAny_pure ⟨plainId_quiet PySem.F.plain_extend_loop _, key _ c₀ _ st (fun b o _ e => Heap.get?_push_of_some _ e) hS₁⟩)
theorem init_str {R : Result → Shared → Prop} (hh : A.handled = none) (S : Addr) (hS : s.heap.get? S = some { cls := .type "list", data := .seq #[] })
    (hR : ∀ h' tk acc' c', (∀ b o, b ≠ S → s.heap.get? b = some o → h'.get? b = some o) → h'.get? S = some { cls := .type "list", dict := none, data := .seq acc' c', slots := #[] } → ItemsOf (SignAt x) acc' x.cps.size → R (.ok (.ret .none)) { s with heap := h', toks := tk }) (hn : x.cps.size ≤ sizeLine) :
    wpAny (model prog w) A.in1 (Builtin.«list.__init__» ⟨[.ref S, .str x t], []⟩)
      (fun fin s' => match fin with | .done f => R (.ok f) s' | .again c' => c'.quiet = true ∧ codeAny (model prog w) A c' R s') (fun e s' => R (.error e) s') s := by
  show wpAny _ _ (do let old ← Builtin.List.listItems (.ref S); Builtin.List.listUpdate (.ref S) (fun _ => #[]); letGo old.toList.reverse; Builtin.List.listExtendWith (.ref S) (.str x t) .none) _ _ s
  refine wpAny_bind ?_
  unfold Builtin.List.listItems
  refine wpAny_bind (wpAny_seqItems hS rfl (wpAny_pure ?_))
  show wpAny _ _ (updateSeq S (fun _ => #[]) >>= fun _ => letGo (#[] : Array Value).toList.reverse >>= fun _ => Builtin.List.listExtendWith (.ref S) (.str x t) .none) _ _ s
  refine wpAny_bind (wpAny_updateSeq hS rfl ?_)
  have hS₂ := Heap.get?_update_self (Obj.mapSeq (fun _ => (#[] : Array Value))) hS rfl
  have oth : ∀ b o, b ≠ S → s.heap.get? b = some o → (s.heap.update S (Obj.mapSeq (fun _ => (#[] : Array Value)))).get? b = some o :=
    fun b o hb e => (Heap.get?_update_other _ _ (Ne.symm hb)).trans e
  refine wpAny_bind (wpAny_letGo ?_)
  refine extend_str hh S .none _ hS₂ (fun h' tk acc' c' hk hS' hacc => ?_) hn
  exact hR h' tk acc' c' (fun b o hb e => hk b o hb (oth b o hb e)) hS' hacc
theorem call_str {Q : Value → Shared → Prop} (hh : A.handled = none) (hn : x.cps.size ≤ sizeLine)
    (hQ : ∀ h' tk acc' c', (∀ b o, s.heap.get? b = some o → h'.get? b = some o) → h'.get? s.heap.objs.size = some { cls := .type "list", dict := none, data := .seq acc' c', slots := #[] } → ItemsOf (SignAt x) acc' x.cps.size → Q (.ref s.heap.objs.size) { s with heap := h', toks := tk }) :
    wpAny (model prog w) A (call (.type "list") [.str x t]) Q E s := by
  refine callType_codes (Q₁ := fun obj s₁ => obj = .ref s.heap.objs.size ∧ s₁ = { s with heap := s.heap.push { cls := .type "list", data := .seq #[] } }) PySem.F.called_list (PySem.F.typeCall_list_1 _) PySem.F.entry_list_init
    (code_list_new _ ⟨rfl, rfl⟩) fun obj s₁ h₁ => ?_
  obtain ⟨rfl, rfl⟩ := h₁
  have hS : (s.heap.push { cls := .type "list", data := .seq #[] }).get? s.heap.objs.size = some { cls := .type "list", data := .seq #[] } := Heap.get?_push_size _ rfl
  refine ⟨⟨_, hS, rfl⟩, PySem.F.args_list_init_2 _ _, init_str (A := A.in1) hh _ hS (fun h' tk acc' c' hk hS' hacc => ?_) hn⟩
  exact ⟨rfl, hQ h' tk acc' c' (fun b o e => hk b o (Nat.ne_of_lt (Heap.lt_size e)) (Heap.get?_push_of_some _ e)) hS' hacc⟩
end
end LS
namespace L2
open PySem PySem.Spec PyProof.Rows
theorem vals_signs {x : Str} {acc : Array Value} (h : ItemsOf (SignAt x) acc x.cps.size) : Vals (x.cps.toList.map fun c => V.str ⟨#[c]⟩) acc.toList := by
  have key : ∀ (l : List Nat) (vs : List Value), vs.length = l.length → (∀ (j : Nat) (v : Value), vs[j]? = some v → ∃ (c : Nat) (u : Tok), l[j]? = some c ∧ v = Value.str ⟨#[c]⟩ u) → Vals (l.map fun c => V.str ⟨#[c]⟩) vs := by
    intro l
    induction l with
    | nil =>
      intro vs hl _
      cases vs with
      | nil => exact .nil
      | cons _ _ => cases hl
    | cons c l ih =>
      intro vs hl hv
      cases vs with
      | nil => cases hl
      | cons v vs =>
        obtain ⟨c', u, e1, e2⟩ := hv 0 v rfl
        cases e1
        subst e2
        exact .cons ⟨u, rfl⟩ (ih vs (by simpa using hl) fun j v' e => by simpa using hv (j + 1) v' (by simpa using e))
  refine key _ _ (by rw [Array.length_toList, h.1, Array.length_toList]) fun j v e => ?_
  obtain ⟨c, u, e1, e2⟩ := h.2 j v (by simpa using e)
  exact ⟨c, u, by simpa using e1, e2⟩
theorem call_list_str {X : Cx} (hc : X.calm = true) : CallR X (.type "list") (fun xs H Q => ∃ z : Str, xs = [.str z] ∧ z.length ≤ sizeLine ∧ ∀ l, H l = none → Q (.ref l) (upd H l (.lst (z.cps.toList.map fun c => V.str ⟨#[c]⟩)))) := by
  intro pins s σ H xs us Q I r h
  obtain ⟨z, rfl, hl, q⟩ := h
  obtain ⟨u, rfl, rx⟩ := vals1 r
  obtain ⟨t, rfl⟩ := rx
  refine LS.call_str (I.ok.hd hc) hl fun h' tk acc' c' kp e hacc => ?_
  have r' := vals_signs hacc
  exact ⟨.ref s.heap.objs.size, _, I.laid (t' := tk) kp (Nat.le_refl _) (show ObjOk X.prog X.w _ h' _ (.lst _) from ⟨by rw [List.length_map, Array.length_toList]; exact hl, acc'.toList, c', r', by rw [Array.toArray_toList]; exact e⟩), rfl, q _ (I.hok.fresh (Nat.le_refl _))⟩
end L2

set_option Elab.async false
set_option linter.all false
set_option maxRecDepth 100000
set_option maxHeartbeats 4000000
set_option autoImplicit false
/-! The data layer: operations by values. -/
namespace DL
open PySem PySem.Spec PyProof.Rows L2
abbrev GR2 := D → D → NS → (D → NS → Prop) → Prop
theorem S_len (l : List Nat) : (S l).length = l.length := by simp [S, Str.length]
theorem S_app (a b : List Nat) : S a ++ S b = S (a ++ b) := by
  show Str.mk _ = _
  simp
theorem S_inj {a b : List Nat} : S a = S b ↔ a = b := ⟨fun h => by have := congrArg (fun x : Str => x.cps.toList) h; simpa using this, fun h => by rw [h]⟩
theorem S_cps (a : List Nat) : (S a).cps.toList = a := by simp
section
variable {X : Cx} {M : LK} {W : WX}
/-! ### + -/
def gAdd : GR2 := fun x y n q => match x, y with
  | .int i, .int j => q (.int (i + j)) n
  | .str a, .str b => a.length + b.length ≤ 100000 ∧ q (.str (a ++ b)) n
  | .lst a, .lst b => a.length + b.length ≤ 100000 ∧ q (.lst (a ++ b)) n
  | .tup a, .tup b => a.length + b.length ≤ 100000 ∧ q (.tup (a ++ b)) n
  | _, _ => False
def rAddX (K : Frag) : R2 := fun x y H Q => (((∃ i j, x = V.int i ∧ y = V.int j ∧ Q (.int (i + j)) H) ∨ (∃ i j, x = V.str i ∧ y = V.str j ∧ i.length + j.length ≤ sizeLine ∧ Q (.str (i ++ j)) H)) ∨ rCat x y H Q) ∨ rCatA K x y H Q
theorem op_addX (hK : X.K = M.L.K) : OpR X (binaryOp .Add) (rAddX M.L.K) := hK ▸ OpR.or (OpR.or (OpR.or op_add op_add_str) op_cat) op_catA
theorem IsL.nil_iff {G : Hp} {vs : List V} {ds : List D} (h : IsL M G vs ds) : vs = [] ↔ ds = [] := by
  have e1 := h.length
  constructor
  · intro e
    rw [e] at e1
    exact List.eq_nil_of_length_eq_zero e1.symm
  · intro e
    rw [e] at e1
    exact List.eq_nil_of_length_eq_zero e1
theorem dr_add : DR2 M (rAddX M.L.K) gAdd := by
  intro pn G n σ δ H v u x y q Q R ix iy h k
  unfold gAdd at h
  split at h
  · rename_i i j
    simp only [Is] at ix iy
    exact .inl (.inl (.inl ⟨i, j, ix, iy, k G _ (.int (i + j)) n H Adv.refl R (by simp only [Is]) h⟩))
  · rename_i a b
    simp only [Is] at ix iy
    refine .inl (.inl (.inr ⟨S a, S b, ix, iy, by rw [S_len, S_len]; exact le_line h.1, ?_⟩))
    exact k G _ (.str (a ++ b)) n H Adv.refl R (by simp only [Is]; rw [S_app]) h.2
  · rename_i a b
    simp only [Is] at ix iy
    obtain ⟨p, vs, rfl, h1, h2⟩ := ix
    obtain ⟨p', us, rfl, h3, h4⟩ := iy
    refine .inl (.inr ⟨p, p', vs, us, rfl, rfl, R.ex _ _ h1, R.ex _ _ h3, by rw [h2.length, h4.length]; exact le_line h.1, fun l hl => ?_⟩)
    obtain ⟨R2, A2⟩ := R.lay (o := .lst (vs ++ us)) hl notTbl_lst
    exact k _ _ (.lst (a ++ b)) n _ A2 R2 (by simp only [Is]; exact ⟨l, _, rfl, upd_same, IsL.append (IsL.up A2.ge _ _ h2) (IsL.up A2.ge _ _ h4)⟩) h.2
  · rename_i a b
    have ix' := ix
    have iy' := iy
    simp only [Is] at ix iy
    obtain ⟨p, vs, rfl, h1, h2⟩ := ix
    obtain ⟨p', us, rfl, h3, h4⟩ := iy
    refine .inr ⟨p, p', vs, us, rfl, rfl, R.ex.seqT h1, R.ex.seqT h3, by rw [h2.length, h4.length]; exact le_line h.1, fun e => ?_, fun _ e => ?_, fun _ _ l hl => ?_⟩
    · have e2 := h2.nil_iff.mp e
      subst e2
      exact k G _ (.tup b) n H Adv.refl R iy' h.2
    · have e2 := h4.nil_iff.mp e
      subst e2
      exact k G _ (.tup a) n H Adv.refl R ix' (by simpa using h.2)
    · obtain ⟨R2, A2⟩ := R.lay (o := .tup (vs ++ us)) hl notTbl_tup
      exact k _ _ (.tup (a ++ b)) n _ A2 R2 (by simp only [Is]; exact ⟨l, _, rfl, SqT.of upd_same, IsL.append (IsL.up A2.ge _ _ h2) (IsL.up A2.ge _ _ h4)⟩) h.2
  · exact h.elim
theorem dp_add {a b : Expr} {pos : Pos} {fa fb : DTE} (hK : X.K = M.L.K) (ha : PE X a (liftE M W fa)) (hb : PE X b (liftE M W fb)) : PE X (.BinOp a .Add b pos) (liftE M W (dOp gAdd fa fb)) := dp_op (op_addX hK) dr_add ha hb
/-! ### ints -/
def gI (C : Int → Int → Prop) (g : Int → Int → D) : GR2 := fun x y n q => match x, y with
  | .int i, .int j => C i j ∧ q (g i j) n
  | _, _ => False
theorem dr_I {C C' : Int → Int → Prop} {g : Int → Int → V} {g' : Int → Int → D} (hc : ∀ i j, C' i j → C i j) (hg : ∀ G i j, Is M G (g i j) (g' i j)) : DR2 M (rI C g) (gI C' g') := by
  intro pn G n σ δ H v u x y q Q R ix iy h k
  unfold gI at h
  split at h
  · rename_i i j
    simp only [Is] at ix iy
    exact ⟨i, j, ix, iy, hc i j h.1, k G _ _ n H Adv.refl R (hg G i j) h.2⟩
  · exact h.elim
def gI0 (g : Int → Int → D) : GR2 := fun x y n q => match x, y with
  | .int i, .int j => q (g i j) n
  | _, _ => False
theorem dr_I0 {g : Int → Int → V} {g' : Int → Int → D} (hg : ∀ G i j, Is M G (g i j) (g' i j)) : DR2 M (rI0 g) (gI0 g') := by
  intro pn G n σ δ H v u x y q Q R ix iy h k
  unfold gI0 at h
  split at h
  · rename_i i j
    simp only [Is] at ix iy
    exact ⟨i, j, ix, iy, k G _ _ n H Adv.refl R (hg G i j) h⟩
  · exact h.elim
abbrev gSub : GR2 := gI0 fun i j => .int (i - j)
theorem dp_sub {a b : Expr} {pos : Pos} {fa fb : DTE} (ha : PE X a (liftE M W fa)) (hb : PE X b (liftE M W fb)) : PE X (.BinOp a .Sub b pos) (liftE M W (dOp gSub fa fb)) := dp_op op_sub (dr_I0 fun _ _ _ => by simp only [Is]) ha hb
/-- what * asks: one factor within 64 bits, or both together below a million -/
def MulOk (i j : Int) : Prop := ((-(2 ^ 64) < i ∧ i < 2 ^ 64) ∨ (-(2 ^ 64) < j ∧ j < 2 ^ 64)) ∨ i.natAbs.log2 + j.natAbs.log2 < 1000000
theorem op_mulX : OpR X (binaryOp .Mult) (rI MulOk fun i j => .int (i * j)) := by
  intro pins s σ H x y v u Q I rx ry h
  obtain ⟨i, j, e1, e2, hc, q⟩ := h
  rcases hc with hc | hc
  · exact op_mul pins s σ H x y v u Q I rx ry ⟨i, j, e1, e2, hc, q⟩
  · exact op_mulW pins s σ H x y v u Q I rx ry ⟨i, j, e1, e2, hc, q⟩
abbrev gMul : GR2 := gI MulOk fun i j => .int (i * j)
theorem dp_mul {a b : Expr} {pos : Pos} {fa fb : DTE} (ha : PE X a (liftE M W fa)) (hb : PE X b (liftE M W fb)) : PE X (.BinOp a .Mult b pos) (liftE M W (dOp gMul fa fb)) := dp_op op_mulX (dr_I (fun _ _ h => h) fun _ _ _ => by simp only [Is]) ha hb
def DivOk (i j : Int) : Prop := 0 < j ∧ (j < 1073741824 ∨ j.natAbs.log2 < 9000)
theorem op_divX : OpR X (binaryOp .FloorDiv) (rI DivOk fun i j => .int (i / j)) := by
  intro pins s σ H x y v u Q I rx ry h
  obtain ⟨i, j, e1, e2, hc, q⟩ := h
  rcases hc.2 with h2 | h2
  · exact op_fdiv pins s σ H x y v u Q I rx ry ⟨i, j, e1, e2, ⟨hc.1, h2⟩, q⟩
  · exact op_fdivW pins s σ H x y v u Q I rx ry ⟨i, j, e1, e2, ⟨hc.1, h2⟩, q⟩
abbrev gDiv : GR2 := gI DivOk fun i j => .int (i / j)
theorem dp_div {a b : Expr} {pos : Pos} {fa fb : DTE} (ha : PE X a (liftE M W fa)) (hb : PE X b (liftE M W fb)) : PE X (.BinOp a .FloorDiv b pos) (liftE M W (dOp gDiv fa fb)) := dp_op op_divX (dr_I (fun _ _ h => h) fun _ _ _ => by simp only [Is]) ha hb
abbrev gMod : GR2 := gI (fun _ j => 0 < j) fun i j => .int (i % j)
theorem dp_mod {a b : Expr} {pos : Pos} {fa fb : DTE} (ha : PE X a (liftE M W fa)) (hb : PE X b (liftE M W fb)) : PE X (.BinOp a .Mod b pos) (liftE M W (dOp gMod fa fb)) := dp_op op_mod (dr_I (fun _ _ h => h) fun _ _ _ => by simp only [Is]) ha hb
abbrev gPow : GR2 := gI CPow fun i j => .int (i ^ j.toNat)
theorem dp_pow {a b : Expr} {pos : Pos} {fa fb : DTE} (ha : PE X a (liftE M W fa)) (hb : PE X b (liftE M W fb)) : PE X (.BinOp a .Pow b pos) (liftE M W (dOp gPow fa fb)) := dp_op op_pow (dr_I (fun _ _ h => h) fun _ _ _ => by simp only [Is]) ha hb
def dNeg (f : DTE) : DTE := fun δ n q e => f δ n (fun x n1 => match x with | .int i => q (.int (-i)) n1 | _ => False) e
theorem dp_neg {a : Expr} {pos : Pos} {f : DTE} (ha : PE X a (liftE M W f)) : PE X (.UnaryOp .USub a pos) (liftE M W (dNeg f)) :=
  PEw (pe_un un_neg ha) fun σ H Q ⟨pn, G, n, δ, q, e, R, hf, hQ, hX⟩ => by
    refine ⟨pn, G, n, δ, _, e, R, hf, fun G1 v d n1 H1 A1 R1 i1 h1 => ?_, hX⟩
    cases d with
    | int i =>
      simp only [Is] at i1
      exact ⟨i, i1, hQ G1 _ (.int (-i)) n1 H1 A1 R1 (by simp only [Is]) h1⟩
    | _ => exact h1.elim
/-! ### order -/
def gOrd (gi : Int → Int → Bool) (gs : List Nat → List Nat → Bool) : GR2 := fun x y n q => match x, y with
  | .int i, .int j => q (.bl (gi i j)) n
  | .str a, .str b => q (.bl (gs a b)) n
  | _, _ => False
def rOrd (gi : Int → Int → Bool) (gs : List Nat → List Nat → Bool) : R2 := fun x y H Q => (∃ i j, x = V.int i ∧ y = V.int j ∧ Q (.bl (gi i j)) H) ∨ (∃ i j, x = V.str i ∧ y = V.str j ∧ Q (.bl (gs i.cps.toList j.cps.toList)) H)
theorem dr_ord {gi : Int → Int → Bool} {gs : List Nat → List Nat → Bool} : DR2 M (rOrd gi gs) (gOrd gi gs) := by
  intro pn G n σ δ H v u x y q Q R ix iy h k
  unfold gOrd at h
  split at h
  · rename_i i j
    simp only [Is] at ix iy
    exact .inl ⟨i, j, ix, iy, k G _ (.bl (gi i j)) n H Adv.refl R (by simp only [Is]) h⟩
  · rename_i a b
    simp only [Is] at ix iy
    exact .inr ⟨S a, S b, ix, iy, k G _ (.bl (gs a b)) n H Adv.refl R (by simp only [Is, S_cps]) h⟩
  · exact h.elim
abbrev gLt : GR2 := gOrd (fun i j => decide (i < j)) (fun a b => decide (a < b))
abbrev gLe : GR2 := gOrd (fun i j => decide (i ≤ j)) (fun a b => !decide (b < a))
abbrev gGt : GR2 := gOrd (fun i j => decide (j < i)) (fun a b => decide (b < a))
abbrev gGe : GR2 := gOrd (fun i j => decide (j ≤ i)) (fun a b => !decide (a < b))
theorem op_ltX : OpR X (compareOp .Lt) (rOrd (fun i j => decide (i < j)) (fun a b => decide (a < b))) := OpR.or op_lt op_lt_str
theorem op_leX : OpR X (compareOp .LtE) (rOrd (fun i j => decide (i ≤ j)) (fun a b => !decide (b < a))) := OpR.or op_le op_le_str
theorem op_gtX : OpR X (compareOp .Gt) (rOrd (fun i j => decide (j < i)) (fun a b => decide (b < a))) := OpR.or op_gt op_gt_str
theorem op_geX : OpR X (compareOp .GtE) (rOrd (fun i j => decide (j ≤ i)) (fun a b => !decide (a < b))) := OpR.or op_ge op_ge_str
end
end DL

set_option Elab.async false
set_option linter.all false
set_option maxRecDepth 100000
set_option maxHeartbeats 4000000
set_option autoImplicit false
namespace DL
open PySem PySem.Spec PyProof.Rows L2
section
variable {X : Cx} {M : LK} {W : WX}
/-! ### == -/
mutual
def py : D → Option PyData
  | .non => some .none
  | .bl b => some (.bool b)
  | .int i => some (.int i)
  | .str l => some (.str (S l))
  | .lst xs => (pyL xs).map .list
  | .tup xs => (pyL xs).map .tuple
  | _ => none
def pyL : List D → Option (List PyData)
  | [] => some []
  | d :: ds => match py d, pyL ds with | some a, some b => some (a :: b) | _, _ => none
end
mutual
theorem py_dp {G H : Hp} (hx : Ext G H) : ∀ (d : D) (v : V) (x : PyData), Is M G v d → py d = some x → Dp M.L.K H v x
  | .non, v, x, h, e => by simp only [Is] at h; simp only [py, Option.some.injEq] at e; subst h e; exact .non
  | .bl b, v, x, h, e => by simp only [Is] at h; simp only [py, Option.some.injEq] at e; subst h e; exact .bl b
  | .int i, v, x, h, e => by simp only [Is] at h; simp only [py, Option.some.injEq] at e; subst h e; exact .int i
  | .str l, v, x, h, e => by simp only [Is] at h; simp only [py, Option.some.injEq] at e; subst h e; exact .str _
  | .lst xs, v, x, h, e => by
    simp only [Is] at h
    obtain ⟨p, vs, rfl, h1, h2⟩ := h
    simp only [py, Option.map_eq_some_iff] at e
    obtain ⟨ys, e1, rfl⟩ := e
    exact .lst (SqL.of (hx _ _ h1)) (py_dpL hx xs vs ys h2 e1)
  | .tup xs, v, x, h, e => by
    simp only [Is] at h
    obtain ⟨p, vs, rfl, h1, h2⟩ := h
    simp only [py, Option.map_eq_some_iff] at e
    obtain ⟨ys, e1, rfl⟩ := e
    exact .tup (hx.seqT h1) (py_dpL hx xs vs ys h2 e1)
  | .ty _, _, _, _, e => by simp [py] at e
  | .ref _, _, _, _, e => by simp [py] at e
  | .pen, _, _, _, e => by simp [py] at e
  | .ins _ _ _, _, _, _, e => by simp [py] at e
  | .exc _ _ _ _ _, _, _, _, e => by simp [py] at e
  | .err _ _ _, _, _, _, e => by simp [py] at e
  | .dct, _, _, _, e => by simp [py] at e
  | .scr, _, _, _, e => by simp [py] at e
  | .thk _ _ _ _ _, _, _, _, e => by simp [py] at e
theorem py_dpL {G H : Hp} (hx : Ext G H) : ∀ (ds : List D) (vs : List V) (xs : List PyData), IsL M G vs ds → pyL ds = some xs → DpAll M.L.K H vs xs
  | [], [], xs, _, e => by simp only [pyL, Option.some.injEq] at e; subst e; exact .nil
  | d :: ds, v :: vs, xs, h, e => by
    simp only [IsL] at h
    simp only [pyL] at e
    cases e1 : py d with
    | none => rw [e1] at e; cases e
    | some a =>
      cases e2 : pyL ds with
      | none => rw [e1, e2] at e; cases e
      | some b =>
        rw [e1, e2] at e
        cases e
        exact .cons (py_dp hx d v a h.1 e1) (py_dpL hx ds vs b h.2 e2)
  | [], _ :: _, _, h, _ => by simp only [IsL] at h
  | _ :: _, [], _, h, _ => by simp only [IsL] at h
end
/-- == of scalars -/
def scEq : D → D → Option Bool
  | .non, .non => some true | .non, .int _ => some false | .int _, .non => some false | .non, .bl _ => some false | .bl _, .non => some false | .non, .str _ => some false | .str _, .non => some false
  | .int a, .int b => some (decide (a = b)) | .bl a, .bl b => some (decide (a = b)) | .str a, .str b => some (decide (a = b))
  | .int _, .str _ => some false | .str _, .int _ => some false | .bl _, .str _ => some false | .str _, .bl _ => some false
  | _, _ => none
theorem scEq_ok {G : Hp} {v u : V} {x y : D} {b : Bool} (h : scEq x y = some b) (ix : Is M G v x) (iy : Is M G u y) : scal v u = true ∧ decide (v = u) = b := by
  cases x <;> cases y <;> simp only [scEq, Option.some.injEq, reduceCtorEq] at h <;> simp only [Is] at ix iy <;> subst ix iy h <;> refine ⟨rfl, ?_⟩ <;> simp
def eqD (x y : D) (k : Bool → Prop) : Prop := match scEq x y with
  | some b => k b
  | none => ∃ a b, py x = some a ∧ py y = some b ∧ SeqAt.shaped a = true ∧ SeqAt.shaped b = true ∧ k (PyData.eqv a b)
def gEq : GR2 := fun x y n q => eqD x y fun b => q (.bl b) n
def gNe : GR2 := fun x y n q => eqD x y fun b => q (.bl (!b)) n
theorem dr_eq : DR2 M (fun x y H Q => rEq x y H Q ∨ rEqD M.L.K x y H Q) gEq := by
  intro pn G n σ δ H v u x y q Q R ix iy h k
  unfold gEq eqD at h
  cases e : scEq x y with
  | some b =>
    rw [e] at h
    obtain ⟨h1, h2⟩ := scEq_ok e ix iy
    exact .inl ⟨h1, k G _ (.bl b) n H Adv.refl R (by simp only [Is]; rw [h2]) h⟩
  | none =>
    rw [e] at h
    obtain ⟨a, b, e1, e2, s1, s2, h⟩ := h
    exact .inr ⟨a, b, py_dp R.ex x v a ix e1, py_dp R.ex y u b iy e2, s1, s2, k G _ (.bl (PyData.eqv a b)) n H Adv.refl R (by simp only [Is]) h⟩
theorem dr_ne : DR2 M (fun x y H Q => rNe x y H Q ∨ rNeD M.L.K x y H Q) gNe := by
  intro pn G n σ δ H v u x y q Q R ix iy h k
  unfold gNe eqD at h
  cases e : scEq x y with
  | some b =>
    rw [e] at h
    obtain ⟨h1, h2⟩ := scEq_ok e ix iy
    exact .inl ⟨h1, k G _ (.bl (!b)) n H Adv.refl R (by simp only [Is]; rw [h2]) h⟩
  | none =>
    rw [e] at h
    obtain ⟨a, b, e1, e2, s1, s2, h⟩ := h
    exact .inr ⟨a, b, py_dp R.ex x v a ix e1, py_dp R.ex y u b iy e2, s1, s2, k G _ (.bl (!PyData.eqv a b)) n H Adv.refl R (by simp only [Is]) h⟩
theorem op_eqX (hK : X.K = M.L.K) (hu : X.A.units + 64 < cLine) : OpR X (compareOp .Eq) (fun x y H Q => rEq x y H Q ∨ rEqD M.L.K x y H Q) := hK ▸ OpR.or op_eq (op_eqD hu)
theorem op_neX (hK : X.K = M.L.K) (hu : X.A.units + 64 < cLine) : OpR X (compareOp .NotEq) (fun x y H Q => rNe x y H Q ∨ rNeD M.L.K x y H Q) := hK ▸ OpR.or op_ne (op_neD hu)
end
end DL

set_option Elab.async false
set_option linter.all false
set_option maxRecDepth 100000
set_option maxHeartbeats 4000000
set_option autoImplicit false
namespace DL
open PySem PySem.Spec PyProof.Rows L2
section
variable {X : Cx} {M : LK} {W : WX}
/-! ### in, is None -/
def flatD : D → Bool
  | .non => true | .bl _ => true | .int _ => true | .str _ => true | _ => false
/-- a flat value -/
def dV : D → V
  | .bl b => .bl b | .int i => .int i | .str l => .str (S l) | _ => .non
theorem dV_ok {G : Hp} {v : V} {d : D} (h : Is M G v d) (hf : flatD d = true) : v = dV d ∧ flatV v = true := by
  cases d <;> simp only [flatD, reduceCtorEq] at hf <;> simp only [Is] at h <;> subst h <;> exact ⟨rfl, rfl⟩
theorem dV_all {G : Hp} : ∀ {ds : List D} {vs : List V}, IsL M G vs ds → ds.all flatD = true → vs = ds.map dV ∧ vs.all flatV = true
  | [], [], _, _ => ⟨rfl, rfl⟩
  | d :: ds, v :: vs, h, hf => by
    simp only [IsL] at h
    rw [List.all_cons, Bool.and_eq_true] at hf
    obtain ⟨e1, e2⟩ := dV_ok h.1 hf.1
    obtain ⟨e3, e4⟩ := dV_all h.2 hf.2
    exact ⟨by rw [e1, e3]; rfl, by rw [List.all_cons, e2, e4]; rfl⟩
  | [], _ :: _, h, _ => by simp only [IsL] at h
  | _ :: _, [], h, _ => by simp only [IsL] at h
/-- y is x, flat ones -/
def eqF (y x : D) : Bool := eqV (dV y) (dV x)
def inD (x y : D) (k : Bool → Prop) : Prop := match x, y with
  | .str [c], .str l => k (decide (c ∈ l))
  | x, .lst ys => flatD x = true ∧ ys.all flatD = true ∧ k (ys.any fun y => eqF y x)
  | x, .tup ys => flatD x = true ∧ ys.all flatD = true ∧ k (ys.any fun y => eqF y x)
  | _, _ => False
def gIn : GR2 := fun x y n q => inD x y fun b => q (.bl b) n
def gNotIn : GR2 := fun x y n q => inD x y fun b => q (.bl (!b)) n
theorem inV_any {x : D} {ys : List D} : inV (dV x) (ys.map dV) = ys.any fun y => eqF y x := by unfold inV eqF; rw [List.any_map]; rfl
theorem dr_in {neg : Bool} : DR2 M (fun x y H Q => (∃ (c : Nat) (z : Str), x = .str ⟨#[c]⟩ ∧ y = .str z ∧ Q (.bl (if neg then !decide (c ∈ z.cps.toList) else decide (c ∈ z.cps.toList))) H) ∨ rIn M.L.K neg x y H Q) (fun x y n q => inD x y fun b => q (.bl (if neg then !b else b)) n) := by
  intro pn G n σ δ H v u x y q Q R ix iy h k
  unfold inD at h
  split at h
  · rename_i c l
    simp only [Is] at ix iy
    exact .inl ⟨c, S l, ix, iy, k G _ (.bl (if neg then !decide (c ∈ l) else decide (c ∈ l))) n H Adv.refl R (by simp only [Is, S_cps]) h⟩
  · rename_i ys _
    obtain ⟨f1, f2, h⟩ := h
    simp only [Is] at iy
    obtain ⟨p, vs, rfl, h1, h2⟩ := iy
    obtain ⟨e1, e2⟩ := dV_ok ix f1
    obtain ⟨e3, e4⟩ := dV_all h2 f2
    refine .inr ⟨p, vs, rfl, .inl (SqL.of (R.ex _ _ h1)), e2, e4, ?_⟩
    rw [e1, e3, inV_any]
    exact k G _ _ n H Adv.refl R (by simp only [Is]) h
  · rename_i ys _
    obtain ⟨f1, f2, h⟩ := h
    simp only [Is] at iy
    obtain ⟨p, vs, rfl, h1, h2⟩ := iy
    obtain ⟨e1, e2⟩ := dV_ok ix f1
    obtain ⟨e3, e4⟩ := dV_all h2 f2
    refine .inr ⟨p, vs, rfl, .inr (R.ex.seqT h1), e2, e4, ?_⟩
    rw [e1, e3, inV_any]
    exact k G _ _ n H Adv.refl R (by simp only [Is]) h
  · exact h.elim
theorem op_inX (hK : X.K = M.L.K) : OpR X (compareOp .In) (fun x y H Q => (∃ (c : Nat) (z : Str), x = .str ⟨#[c]⟩ ∧ y = .str z ∧ Q (.bl (if false then !decide (c ∈ z.cps.toList) else decide (c ∈ z.cps.toList))) H) ∨ rIn M.L.K false x y H Q) := hK ▸ OpR.or op_in_sign op_in_seq
theorem op_notInX (hK : X.K = M.L.K) : OpR X (compareOp .NotIn) (fun x y H Q => (∃ (c : Nat) (z : Str), x = .str ⟨#[c]⟩ ∧ y = .str z ∧ Q (.bl (if true then !decide (c ∈ z.cps.toList) else decide (c ∈ z.cps.toList))) H) ∨ rIn M.L.K true x y H Q) := hK ▸ OpR.or op_notIn_sign op_notIn_seq
theorem dr_inX : DR2 M (fun x y H Q => (∃ (c : Nat) (z : Str), x = .str ⟨#[c]⟩ ∧ y = .str z ∧ Q (.bl (if false then !decide (c ∈ z.cps.toList) else decide (c ∈ z.cps.toList))) H) ∨ rIn M.L.K false x y H Q) gIn := dr_in
theorem dr_notInX : DR2 M (fun x y H Q => (∃ (c : Nat) (z : Str), x = .str ⟨#[c]⟩ ∧ y = .str z ∧ Q (.bl (if true then !decide (c ∈ z.cps.toList) else decide (c ∈ z.cps.toList))) H) ∨ rIn M.L.K true x y H Q) gNotIn := dr_in
def isNon : D → Bool | .non => true | _ => false
theorem isNon_ok {G : Hp} {v : V} {d : D} (h : Is M G v d) : decide (v = .non) = isNon d := by
  cases d <;> simp only [Is] at h <;> first | (subst h; rfl) | (obtain ⟨rfl, _⟩ := h; rfl) | (obtain ⟨_, rfl, _⟩ := h; rfl) | (obtain ⟨_, _, rfl, _⟩ := h; rfl) | (obtain ⟨_, _, _, rfl, _⟩ := h; rfl) | exact h.elim
def gIsN : GR2 := fun x y n q => y = .non ∧ q (.bl (isNon x)) n
def gNotN : GR2 := fun x y n q => y = .non ∧ q (.bl (!isNon x)) n
theorem dr_isN : DR2 M (fun x y H Q => y = .non ∧ Q (.bl (decide (x = .non))) H) gIsN := by
  intro pn G n σ δ H v u x y q Q R ix iy h k
  obtain ⟨rfl, h⟩ := h
  simp only [Is] at iy
  exact ⟨iy, k G _ (.bl (isNon x)) n H Adv.refl R (by simp only [Is, isNon_ok ix]) h⟩
theorem dr_notN : DR2 M (fun x y H Q => y = .non ∧ Q (.bl (!decide (x = .non))) H) gNotN := by
  intro pn G n σ δ H v u x y q Q R ix iy h k
  obtain ⟨rfl, h⟩ := h
  simp only [Is] at iy
  exact ⟨iy, k G _ (.bl (!isNon x)) n H Adv.refl R (by simp only [Is, isNon_ok ix]) h⟩
end
end DL

set_option Elab.async false
set_option linter.all false
set_option maxRecDepth 100000
set_option maxHeartbeats 4000000
set_option autoImplicit false
namespace DL
open PySem PySem.Spec PyProof.Rows L2
section
variable {X : Cx} {M : LK} {W : WX}
/-! ### subscripts -/
def gIx : GR2 := fun x y n q => match x, y with
  | .lst xs, .int i => ∃ d, atI xs i = some d ∧ q d n
  | .tup xs, .int i => ∃ d, atI xs i = some d ∧ q d n
  | .str l, .int i => l.length ≤ 100000 ∧ ∃ c, atI l i = some c ∧ q (.str [c]) n
  | .ref a, .int i => ∃ xs d, n.mu a = some (.lst xs) ∧ atI xs i = some d ∧ q d n
  | _, _ => False
theorem IsL.atI {G : Hp} {ds : List D} {vs : List V} {i : Int} {d : D} (h : IsL M G vs ds) (e : atI ds i = some d) : ∃ v, L2.atI vs i = some v ∧ Is M G v d := by
  unfold L2.atI at e ⊢
  rw [h.length]
  cases e1 : ixN ds.length i with
  | none => rw [e1] at e; cases e
  | some j =>
    rw [e1] at e
    exact IsL.get h e
theorem dr_ix : DR2 M (rIx M.L.K) gIx := by
  intro pn G n σ δ H v u x y q Q R ix iy h k
  unfold gIx at h
  split at h
  · rename_i xs i
    obtain ⟨d, e, h⟩ := h
    simp only [Is] at ix iy
    obtain ⟨p, vs, rfl, h1, h2⟩ := ix
    obtain ⟨w, e1, i1⟩ := h2.atI e
    exact .inl ⟨p, vs, i, w, rfl, iy, SqL.of (R.ex _ _ h1), e1, k G w d n H Adv.refl R i1 h⟩
  · rename_i xs i
    obtain ⟨d, e, h⟩ := h
    simp only [Is] at ix iy
    obtain ⟨p, vs, rfl, h1, h2⟩ := ix
    obtain ⟨w, e1, i1⟩ := h2.atI e
    exact .inr (.inl ⟨p, vs, i, w, rfl, iy, R.ex.seqT h1, e1, k G w d n H Adv.refl R i1 h⟩)
  · rename_i l i
    obtain ⟨hl, c, e, h⟩ := h
    simp only [Is] at ix iy
    exact .inr (.inr ⟨S l, i, c, ix, iy, by rw [S_len]; exact le_line hl, by rw [S_cps]; exact e, k G _ (.str [c]) n H Adv.refl R (by simp only [Is]) h⟩)
  · rename_i a i
    obtain ⟨xs, d, hm, e, h⟩ := h
    simp only [Is] at ix iy
    subst ix
    obtain ⟨u, h1, h2, _, _⟩ := R.mu a _ hm
    cases u <;> simp only [MIs] at h2
    obtain ⟨w, e1, i1⟩ := h2.atI e
    exact .inl ⟨a, _, i, w, rfl, iy, SqL.of h1, e1, k G w d n H Adv.refl R i1 h⟩
  · exact h.elim
theorem dp_ix {a b : Expr} {pos : Pos} {fa fb : DTE} (hK : X.K = M.L.K) (ha : PE X a (liftE M W fa)) (hb : PE X b (liftE M W fb)) (hs : PlainIx b := by exact fun _ _ => rfl) : PE X (.Subscript a b pos) (liftE M W (dOp gIx fa fb)) :=
  PEw (pe_ix (r := rIx M.L.K) (hK ▸ ix_seq) ha hb hs) (liftE_bin dr_ix)
/-! ### slices -/
abbrev DTO := DEnv → NS → (Option Int → NS → Prop) → DX → Prop
def liftO (M : LK) (W : WX) (f : DTO) : TO := fun σ H Q => ∃ pn G n δ q e, Rep M pn G n σ δ H ∧ f δ n q e ∧ (∀ G' b n' H', Adv pn G H G' H' → Rep M pn G' n' σ δ H' → q b n' → Q b H') ∧ XEnd M W pn G σ δ H e
theorem POw {X : Cx} {e : Option Expr} {t t' : TO} (h : PO X e t) (w : ∀ σ H Q, t' σ H Q → t σ H Q) : PO X e t' := ⟨fun pins s σ H Q I q => h.run pins s σ H Q I (w _ _ _ q)⟩
def dNoPart : DTO := fun _ n q _ => q none n
def dPart (f : DTE) : DTO := fun δ n q e => f δ n (fun x n1 => match x with | .int i => q (some i) n1 | _ => False) e
theorem do_none : PO X none (liftO M W dNoPart) := POw po_none fun σ H Q ⟨pn, G, n, δ, q, e, R, hf, hQ, hX⟩ => hQ G none n H Adv.refl R hf
theorem do_some {a : Expr} {f : DTE} (h : PE X a (liftE M W f)) : PO X (some a) (liftO M W (dPart f)) := POw (po_some h) fun σ H Q ⟨pn, G, n, δ, q, e, R, hf, hQ, hX⟩ => by
  refine ⟨pn, G, n, δ, _, e, R, hf, fun G1 v d n1 H1 A1 R1 i1 h1 => ?_, hX⟩
  cases d with
  | int i =>
    simp only [Is] at i1
    exact ⟨i, i1, hQ G1 _ n1 H1 A1 R1 h1⟩
  | _ => exact h1.elim
def cutL {α : Type} (xs : List α) (lo hi : Option Int) : List α := (xs.drop (HT.sIx xs.length 0 lo)).take (HT.sIx xs.length xs.length hi - HT.sIx xs.length 0 lo)
def dSl (f : DTE) (lo hi : DTO) : DTE := fun δ n q e => f δ n (fun x n1 => lo δ n1 (fun i n2 => hi δ n2 (fun j n3 => match x with
  | .lst xs => q (.lst (cutL xs i j)) n3
  | .tup xs => q (.tup (cutL xs i j)) n3
  | .str l => l.length ≤ 100000 ∧ q (.str (cutL l i j)) n3
  | _ => False) e) e) e
def rSlX (K : Frag) : V → Option Int → Option Int → Hp → VK → Prop := fun x lo hi H Q => (rSlL K x lo hi H Q ∨ rSlA K x lo hi H Q) ∨ rSlS x lo hi H Q
theorem sl_X (hK : X.K = M.L.K) : SlR X (rSlX M.L.K) := hK ▸ SlR.or (SlR.or sl_list sl_tupA) sl_str
theorem cutL_id {α : Type} {xs : List α} {lo hi : Option Int} (h : HT.sIx xs.length 0 lo = 0 ∧ HT.sIx xs.length xs.length hi = xs.length) : cutL xs lo hi = xs := by
  unfold cutL
  rw [h.1, h.2, List.drop_zero, Nat.sub_zero, List.take_length]
theorem IsL.cut {G : Hp} {ds : List D} {vs : List V} {lo hi : Option Int} (h : IsL M G vs ds) : IsL M G (cutV vs lo hi) (cutL ds lo hi) := by
  unfold cutV cutL
  rw [h.length]
  exact IsL.take _ (IsL.drop _ h)
theorem dp_slice {a : Expr} {lo hi : Option Expr} {p2 pos : Pos} {f : DTE} {fl fh : DTO} (h : PE X (.Subscript a (.Slice lo hi none p2) pos) (tSl (rSlX M.L.K) (liftE M W f) (liftO M W fl) (liftO M W fh))) : PE X (.Subscript a (.Slice lo hi none p2) pos) (liftE M W (dSl f fl fh)) :=
  PEw h fun σ H Q ⟨pn, G, n, δ, q, e, R, hf, hQ, hX⟩ => by
    refine ⟨pn, G, n, δ, _, e, R, hf, fun G1 v d n1 H1 A1 R1 i1 h1 => ?_, hX⟩
    refine ⟨pn, G1, n1, δ, _, e, R1, h1, fun G2 i n2 H2 A2 R2 h2 => ?_, hX.on R A1⟩
    have A12 := R.tr A1 A2
    refine ⟨pn, G2, n2, δ, _, e, R2, h2, fun G3 j n3 H3 A3 R3 h3 => ?_, hX.on R A12⟩
    have A13 := R.tr A12 A3
    have i3 := Is.up (A2.ge.trans A3.ge) d v i1
    cases d with
    | lst xs =>
      simp only [Is] at i3
      obtain ⟨p, vs, rfl, e1, e2⟩ := i3
      refine .inl (.inl ⟨p, vs, rfl, SqL.of (R3.ex _ _ e1), fun l hl => ?_⟩)
      obtain ⟨R4, A4⟩ := R3.lay (o := .lst (cutV vs i j)) hl notTbl_lst
      exact hQ _ _ (.lst (cutL xs i j)) n3 _ (R.tr A13 A4) R4 (by simp only [Is]; exact ⟨l, _, rfl, upd_same, IsL.up A4.ge _ _ e2.cut⟩) h3
    | tup xs =>
      have i3' := i3
      simp only [Is] at i3
      obtain ⟨p, vs, rfl, e1, e2⟩ := i3
      refine .inl (.inr ⟨p, vs, rfl, R3.ex.seqT e1, fun hz => ?_, fun _ l hl => ?_⟩)
      · rw [e2.length] at hz
        have h3' : q (.tup (cutL xs i j)) n3 := h3
        rw [cutL_id hz] at h3'
        exact hQ _ _ (.tup xs) n3 _ A13 R3 i3' h3'
      · obtain ⟨R4, A4⟩ := R3.lay (o := .tup (cutV vs i j)) hl notTbl_tup
        exact hQ _ _ (.tup (cutL xs i j)) n3 _ (R.tr A13 A4) R4 (by simp only [Is]; exact ⟨l, _, rfl, SqT.of upd_same, IsL.up A4.ge _ _ e2.cut⟩) h3
    | str l =>
      simp only [Is] at i3
      refine .inr ⟨S l, i3, by rw [S_len]; exact le_line h3.1, hQ _ _ (.str (cutL l i j)) n3 _ A13 R3 ?_ h3.2⟩
      simp only [Is]
      unfold cutS cutL
      rw [S_cps, S_len]
    | _ => exact h3.elim
end
end DL

set_option Elab.async false
set_option linter.all false
set_option maxRecDepth 100000
set_option maxHeartbeats 4000000
set_option autoImplicit false
/-! The data layer: calls of built-ins, methods of texts. -/
namespace DL
open PySem PySem.Spec PyProof.Rows L2
section
variable {X : Cx} {M : LK} {W : WX}
abbrev GC := List D → NS → (D → NS → Prop) → Prop
theorem dp_bfn {x : Str} {p pos : Pos} {e : Expr} {es : List Expr} {id : String} {r : List V → Hp → VK → Prop} {g : GC} {f : DTA} (hc : CallR X (.builtin id) r) (hr : DRC M r g) (hg : Gl X x) (hm : X.mg x = none) (hv : bootBuiltins x = some (.builtin id)) (ha : PA X (e :: es) (liftA M W f)) (hn : x ≠ "__name__" := by decide) (hdb : (x == ("__debug__" : Str)) = false := by decide)
    (he : starEach (e :: es) X.env = (false, eval e X.env) :: starEach es X.env := by exact starEach_cons rfl) (hpl : (backTo pos (starEach es X.env)).any (·.1) = false := by rfl) : PE X (.Call (.Name x p) (e :: es) [] pos) (liftE M W (dCB g f)) :=
  dp_cb (pe_callB hc hg hm hv ha hn hdb he hpl) hr
theorem dp_bty {x : Str} {p pos : Pos} {e : Expr} {es : List Expr} {T : String} {r : List V → Hp → VK → Prop} {g : GC} {f : DTA} (hc : CallR X (.type T) r) (hr : DRC M r g) (hg : Gl X x) (hm : X.mg x = none) (hv : bootBuiltins x = some (.type T)) (ha : PA X (e :: es) (liftA M W f)) (hn : x ≠ "__name__" := by decide) (hdb : (x == ("__debug__" : Str)) = false := by decide)
    (he : starEach (e :: es) X.env = (false, eval e X.env) :: starEach es X.env := by exact starEach_cons rfl) (hpl : (backTo pos (starEach es X.env)).any (·.1) = false := by rfl) : PE X (.Call (.Name x p) (e :: es) [] pos) (liftE M W (dCB g f)) :=
  dp_cb (pe_callTy hc hg hm hv ha hn hdb he hpl) hr
/-- the name of a built-in type -/
theorem dp_ty {x : Str} {pos : Pos} {T : String} (hg : Gl X x) (hm : X.mg x = none) (hv : bootBuiltins x = some (.type T)) (hn : x ≠ "__name__" := by decide) (hd : (x == ("__debug__" : Str)) = false := by decide) : PE X (.Name x pos) (liftE M W (dC (.ty T))) :=
  dp_c (pe_bltn (v := .ty T) hg hm hv rfl hn hd) fun _ => by simp only [Is]
/-- the name of an own class -/
theorem dp_cls {x : Str} {pos : Pos} {C : Addr} (hg : Gl X x) (hm : X.mg x = some (.ref C)) (hd : (x == ("__debug__" : Str)) = false := by decide) : PE X (.Name x pos) (liftE M W (dC (.ref C))) :=
  dp_c (pe_glob (v := .ref C) hg hm rfl hd) fun _ => by simp only [Is]
theorem IsL.one {G : Hp} {vs : List V} {d : D} (h : IsL M G vs [d]) : ∃ v, vs = [v] ∧ Is M G v d := by
  match vs, h with
  | [v], h => simp only [IsL] at h; exact ⟨v, rfl, h.1⟩
  | [], h => simp only [IsL] at h
  | _ :: _ :: _, h => simp only [IsL, and_false] at h
theorem IsL.two {G : Hp} {vs : List V} {d d' : D} (h : IsL M G vs [d, d']) : ∃ v v', vs = [v, v'] ∧ Is M G v d ∧ Is M G v' d' := by
  match vs, h with
  | [v, v'], h => simp only [IsL] at h; exact ⟨v, v', rfl, h.1, h.2.1⟩
  | [], h => simp only [IsL] at h
  | [_], h => simp only [IsL, and_false] at h
  | _ :: _ :: _ :: _, h => simp only [IsL, and_false] at h
/-! ### len -/
def gLen : GC := fun xs n q => match xs with
  | [.str l] => l.length ≤ 100000 ∧ q (.int (l.length : Nat)) n
  | [.lst ys] => q (.int (ys.length : Nat)) n
  | [.tup ys] => q (.int (ys.length : Nat)) n
  | [.ref a] => ∃ ys, n.mu a = some (.lst ys) ∧ q (.int (ys.length : Nat)) n
  | _ => False
theorem drc_len (hK : X.K = M.L.K) : DRC M (fun xs H Q => ∃ x n, xs = [x] ∧ LenV X.K x H n ∧ Q (.int (n : Nat)) H) gLen := by
  intro pn G n σ δ H vs xs q Q R iv h k
  unfold gLen at h
  split at h
  · rename_i l
    obtain ⟨v, rfl, iw⟩ := iv.one; clear iv; rename Is M G v _ => iv
    have iv' := iv
    simp only [Is] at iv'
    subst iv'
    exact ⟨_, l.length, rfl, ⟨by rw [S_len]; exact le_line h.1, by rw [S_len]⟩, k G _ _ n H Adv.refl R (by simp only [Is]) h.2⟩
  · rename_i ys
    obtain ⟨v, rfl, iw⟩ := iv.one; clear iv; rename Is M G v _ => iv
    simp only [Is] at iv
    obtain ⟨p, us, rfl, h1, h2⟩ := iv
    exact ⟨_, ys.length, rfl, .inl ⟨us, SqL.of (R.ex _ _ h1), h2.length.symm⟩, k G _ _ n H Adv.refl R (by simp only [Is]) h⟩
  · rename_i ys
    obtain ⟨v, rfl, iw⟩ := iv.one; clear iv; rename Is M G v _ => iv
    simp only [Is] at iv
    obtain ⟨p, us, rfl, h1, h2⟩ := iv
    exact ⟨_, ys.length, rfl, .inr ⟨us, by rw [hK]; exact R.ex.seqT h1, h2.length.symm⟩, k G _ _ n H Adv.refl R (by simp only [Is]) h⟩
  · rename_i a
    obtain ⟨v, rfl, iw⟩ := iv.one; clear iv; rename Is M G v _ => iv
    obtain ⟨ys, hm, h⟩ := h
    simp only [Is] at iv
    subst iv
    obtain ⟨u, h1, h2, _, _⟩ := R.mu a _ hm
    cases u <;> simp only [MIs] at h2
    exact ⟨_, ys.length, rfl, .inl ⟨_, SqL.of h1, h2.length.symm⟩, k G _ _ n H Adv.refl R (by simp only [Is]) h⟩
  · exact h.elim
/-! ### int -/
def gInt : GC := fun xs n q => match xs with
  | [.int i] => q (.int i) n
  | [.bl b] => q (.int (if b then 1 else 0)) n
  | _ => False
theorem drc_int : DRC M (fun xs H Q => (∃ i, xs = [.int i] ∧ Q (.int i) H) ∨ ∃ k : Bool, xs = [.bl k] ∧ Q (.int (if k then 1 else 0)) H) gInt := by
  intro pn G n σ δ H vs xs q Q R iv h k
  unfold gInt at h
  split at h
  · rename_i i
    obtain ⟨v, rfl, iw⟩ := iv.one; clear iv; rename Is M G v _ => iv
    simp only [Is] at iv
    subst iv
    exact .inl ⟨_, rfl, k G _ _ n H Adv.refl R (by simp only [Is]) h⟩
  · rename_i b
    obtain ⟨v, rfl, iw⟩ := iv.one; clear iv; rename Is M G v _ => iv
    simp only [Is] at iv
    subst iv
    exact .inr ⟨_, rfl, k G _ _ n H Adv.refl R (by simp only [Is]) h⟩
  · exact h.elim
/-! ### abs, max, min -/
def gAbs : GC := fun xs n q => match xs with | [.int i] => q (.int (if i < 0 then -i else i)) n | _ => False
theorem drc_abs : DRC M (fun xs H Q => ∃ i : Int, xs = [.int i] ∧ Q (.int (if i < 0 then -i else i)) H) gAbs := by
  intro pn G n σ δ H vs xs q Q R iv h k
  unfold gAbs at h
  split at h
  · rename_i i
    obtain ⟨v, rfl, iw⟩ := iv.one; clear iv; rename Is M G v _ => iv
    simp only [Is] at iv
    subst iv
    exact ⟨_, rfl, k G _ _ n H Adv.refl R (by simp only [Is]) h⟩
  · exact h.elim
def gMax : GC := fun xs n q => match xs with | [.int i, .int j] => q (.int (if j > i then j else i)) n | _ => False
def gMin : GC := fun xs n q => match xs with | [.int i, .int j] => q (.int (if j < i then j else i)) n | _ => False
theorem drc_max : DRC M (fun xs H Q => ∃ i j : Int, xs = [.int i, .int j] ∧ Q (.int (if j > i then j else i)) H) gMax := by
  intro pn G n σ δ H vs xs q Q R iv h k
  unfold gMax at h
  split at h
  · rename_i i j
    obtain ⟨v, v', rfl, iw, iw'⟩ := iv.two; clear iv; rename Is M G v _ => iv; rename Is M G v' _ => iv'
    simp only [Is] at iv iv'
    subst iv; subst iv'
    exact ⟨_, _, rfl, k G _ _ n H Adv.refl R (by simp only [Is]) h⟩
  · exact h.elim
theorem drc_min : DRC M (fun xs H Q => ∃ i j : Int, xs = [.int i, .int j] ∧ Q (.int (if j < i then j else i)) H) gMin := by
  intro pn G n σ δ H vs xs q Q R iv h k
  unfold gMin at h
  split at h
  · rename_i i j
    obtain ⟨v, v', rfl, iw, iw'⟩ := iv.two; clear iv; rename Is M G v _ => iv; rename Is M G v' _ => iv'
    simp only [Is] at iv iv'
    subst iv; subst iv'
    exact ⟨_, _, rfl, k G _ _ n H Adv.refl R (by simp only [Is]) h⟩
  · exact h.elim
/-! ### list -/
def gList : GC := fun xs n q => match xs with
  | [.lst ys] => q (.lst ys) n
  | [.tup ys] => q (.lst ys) n
  | [.str l] => l.length ≤ 100000 ∧ q (.lst (l.map fun c => .str [c])) n
  | _ => False
theorem IsL.signs {G : Hp} : ∀ (l : List Nat), IsL M G (l.map fun c => V.str ⟨#[c]⟩) (l.map fun c => .str [c])
  | [] => by simp only [List.map_nil, IsL]
  | c :: l => by
    simp only [List.map_cons, IsL]
    exact ⟨by simp only [Is], IsL.signs l⟩
theorem cl_list (hc : X.calm = true) : CallR X (.type "list") (fun xs H Q => (∃ p ys, xs = [.ref p] ∧ (SqL X.K H p ys ∨ SqT X.K H p ys) ∧ ∀ l, H l = none → Q (.ref l) (upd H l (.lst ys))) ∨ ∃ z : Str, xs = [.str z] ∧ z.length ≤ sizeLine ∧ ∀ l, H l = none → Q (.ref l) (upd H l (.lst (z.cps.toList.map fun c => V.str ⟨#[c]⟩)))) := CallR.or call_list_of (call_list_str hc)
theorem drc_list (hK : X.K = M.L.K) : DRC M (fun xs H Q => (∃ p ys, xs = [.ref p] ∧ (SqL X.K H p ys ∨ SqT X.K H p ys) ∧ ∀ l, H l = none → Q (.ref l) (upd H l (.lst ys))) ∨ ∃ z : Str, xs = [.str z] ∧ z.length ≤ sizeLine ∧ ∀ l, H l = none → Q (.ref l) (upd H l (.lst (z.cps.toList.map fun c => V.str ⟨#[c]⟩)))) gList := by
  intro pn G n σ δ H vs xs q Q R iv h k
  unfold gList at h
  split at h
  · rename_i ys
    obtain ⟨v, rfl, iw⟩ := iv.one; clear iv; rename Is M G v _ => iv
    simp only [Is] at iv
    obtain ⟨p, us, rfl, h1, h2⟩ := iv
    refine .inl ⟨p, us, rfl, .inl (SqL.of (R.ex _ _ h1)), fun l hl => ?_⟩
    obtain ⟨R2, A2⟩ := R.lay (o := .lst us) hl notTbl_lst
    exact k _ _ _ n _ A2 R2 (by simp only [Is]; exact ⟨l, us, rfl, upd_same, IsL.up A2.ge _ _ h2⟩) h
  · rename_i ys
    obtain ⟨v, rfl, iw⟩ := iv.one; clear iv; rename Is M G v _ => iv
    simp only [Is] at iv
    obtain ⟨p, us, rfl, h1, h2⟩ := iv
    refine .inl ⟨p, us, rfl, .inr (by rw [hK]; exact R.ex.seqT h1), fun l hl => ?_⟩
    obtain ⟨R2, A2⟩ := R.lay (o := .lst us) hl notTbl_lst
    exact k _ _ _ n _ A2 R2 (by simp only [Is]; exact ⟨l, us, rfl, upd_same, IsL.up A2.ge _ _ h2⟩) h
  · rename_i l0
    obtain ⟨v, rfl, iw⟩ := iv.one; clear iv; rename Is M G v _ => iv
    simp only [Is] at iv
    subst iv
    refine .inr ⟨S l0, rfl, by rw [S_len]; exact le_line h.1, fun l hl => ?_⟩
    rw [S_cps]
    obtain ⟨R2, A2⟩ := R.lay (o := .lst (l0.map fun c => V.str ⟨#[c]⟩)) hl notTbl_lst
    exact k _ _ _ n _ A2 R2 (by simp only [Is]; exact ⟨l, _, rfl, upd_same, IsL.signs l0⟩) h.2
  · exact h.elim
/-! ### all, any -/
def blsD : List D → Option (List Bool)
  | [] => some []
  | .bl b :: r => (blsD r).map (b :: ·)
  | _ :: _ => none
theorem blsD_ok {G : Hp} : ∀ {ds : List D} {vs : List V} {bs : List Bool}, IsL M G vs ds → blsD ds = some bs → vs = bs.map V.bl
  | [], [], bs, _, e => by simp only [blsD] at e; cases e; rfl
  | .bl b :: r, v :: vs, bs, h, e => by
    simp only [blsD] at e
    simp only [IsL, Is] at h
    cases e1 : blsD r with
    | none => rw [e1] at e; cases e
    | some bs' =>
      rw [e1] at e
      cases e
      rw [h.1, blsD_ok h.2 e1]
      rfl
  | [], _ :: _, _, h, _ => by simp only [IsL] at h
  | _ :: _, [], _, h, _ => by simp only [IsL] at h
theorem blsD_map (l : List Bool) : blsD (l.map D.bl) = some l := by
  induction l with
  | nil => rfl
  | cons b l ih => simp [blsD, ih]
def gAll : GC := fun xs n q => match xs with | [.lst ys] => (match blsD ys with | some bs => q (.bl (bs.all id)) n | none => False) | _ => False
def gAny : GC := fun xs n q => match xs with | [.lst ys] => (match blsD ys with | some bs => q (.bl (bs.any id)) n | none => False) | _ => False
theorem drc_all (hK : X.K = M.L.K) : DRC M (rAll X.K) gAll := by
  intro pn G n σ δ H vs xs q Q R iv h k
  unfold gAll at h
  split at h
  · rename_i ys
    obtain ⟨v, rfl, iw⟩ := iv.one; clear iv; rename Is M G v _ => iv
    simp only [Is] at iv
    obtain ⟨p, us, rfl, h1, h2⟩ := iv
    cases e : blsD ys with
    | none => rw [e] at h; exact h.elim
    | some bs =>
      rw [e] at h
      refine ⟨p, bs, rfl, SqL.of ?_, k G _ _ n H Adv.refl R (by simp only [Is]) h⟩
      rw [← blsD_ok h2 e]
      exact R.ex _ _ h1
  · exact h.elim
theorem drc_any (hK : X.K = M.L.K) : DRC M (rAny X.K) gAny := by
  intro pn G n σ δ H vs xs q Q R iv h k
  unfold gAny at h
  split at h
  · rename_i ys
    obtain ⟨v, rfl, iw⟩ := iv.one; clear iv; rename Is M G v _ => iv
    simp only [Is] at iv
    obtain ⟨p, us, rfl, h1, h2⟩ := iv
    cases e : blsD ys with
    | none => rw [e] at h; exact h.elim
    | some bs =>
      rw [e] at h
      refine ⟨p, bs, rfl, SqL.of ?_, k G _ _ n H Adv.refl R (by simp only [Is]) h⟩
      rw [← blsD_ok h2 e]
      exact R.ex _ _ h1
  · exact h.elim
/-! ### isinstance -/
/-- the type of a tree of built-in values -/
def kindD : D → Option String
  | .non => some "NoneType"
  | .bl _ => some "bool"
  | .int _ => some "int"
  | .str _ => some "str"
  | .lst _ => some "list"
  | .tup _ => some "tuple"
  | .dct => some "dict"
  | _ => none
/-- what an own class must have for isinstance of its instances -/
structure InsC (K : PySem.W.Frag) (C : Addr) : Prop where
  cl : Cls K C
  ha : PySem.W.findIn K (.ref C) "__class__" = some (some (.builtin "object.__class__"))
  hn : PySem.W.specialIn K (.builtin "object.__class__") "__get__" = some (some (.builtin "getset_descriptor.__get__"))
  htk : PySem.W.takesIn K (.builtin "object.__class__") = some true
  hm : PySem.W.mroIn K C (.type "object") = some true
def tyD (K : PySem.W.Frag) (x : D) (t : Value) : Prop := (∃ s, kindD x = some s ∧ t = .type s) ∨ ∃ C ns ys, x = .ins C ns ys ∧ t = .ref C ∧ InsC K C
def clsD : D → Option Value
  | .ty s => some (.type s)
  | .ref C => some (.ref C)
  | _ => none
/-- isinstance(x, c) -/
def isiD (K : PySem.W.Frag) (x c : D) (k : Bool → Prop) : Prop := match kindD x, c with
  | some s, .ty t => (match kitB s t with | some b => k b | none => False)
  | _, _ => ∃ t u b, tyD K x t ∧ clsD c = some u ∧ PySem.W.kitOne K t u = some b ∧ k b
theorem tyD_ok {G H : Hp} (hx : Ext G H) {v : V} {x : D} {t : Value} (h : tyD M.L.K x t) (iv : Is M G v x) : TyX M.L.K H v t := by
  rcases h with ⟨s, h, rfl⟩ | ⟨C, ns, ys, rfl, rfl, I⟩
  · cases x <;> simp only [kindD] at h <;> cases h
    · simp only [Is] at iv; subst iv; exact .base .non
    · simp only [Is] at iv; subst iv; exact .base (.bl _)
    · simp only [Is] at iv; subst iv; exact .base (.int _)
    · simp only [Is] at iv; subst iv; exact .base (.str _)
    · simp only [Is] at iv
      obtain ⟨p, us, rfl, h1, h2⟩ := iv
      exact .base (.lst (hx _ _ h1))
    · simp only [Is] at iv
      obtain ⟨p, us, rfl, h1, h2⟩ := iv
      rcases hx.seqT h1 with (h1 | ⟨o, h1⟩) | ⟨o, its, n, h1, h3, _⟩
      · exact .base (.tup h1)
      · exact .fTuple h1
      · exact .kTuple h1 h3
    · simp only [Is] at iv
      obtain ⟨p, rfl, h1⟩ := iv
      exact .base (.dK (hx _ _ h1))
  · simp only [Is] at iv
    obtain ⟨p, dx, fs, rfl, h1, h2, h3⟩ := iv
    exact .base (.ins (hx _ _ h1) I.cl I.ha I.hn I.htk I.hm)
theorem clsD_ok {G : Hp} {v : V} {c : D} {u : Value} (h : clsD c = some u) (iv : Is M G v c) : ClsV v u := by
  cases c <;> simp only [clsD] at h <;> cases h
  · simp only [Is] at iv; subst iv; exact .ty _
  · simp only [Is] at iv; subst iv; exact .own _
theorem isiD_ok {x c : D} {k : Bool → Prop} (h : isiD M.L.K x c k) : ∃ t u b, tyD M.L.K x t ∧ clsD c = some u ∧ PySem.W.kitOne M.L.K t u = some b ∧ k b := by
  unfold isiD at h
  split at h
  · rename_i s t e
    cases e1 : kitB s t with
    | none => rw [e1] at h; exact h.elim
    | some b =>
      rw [e1] at h
      exact ⟨.type s, .type t, b, .inl ⟨s, e, rfl⟩, rfl, kit_ty e1, h⟩
  · exact h
def gIsi (K : PySem.W.Frag) : GC := fun xs n q => match xs with | [x, c] => isiD K x c fun b => q (.bl b) n | _ => False
theorem drc_isi (hK : X.K = M.L.K) : DRC M (rIsi X.K) (gIsi M.L.K) := by
  intro pn G n σ δ H vs xs q Q R iv h k
  unfold gIsi at h
  split at h
  · rename_i x c
    obtain ⟨v, v', rfl, iw, iw'⟩ := iv.two; clear iv; rename Is M G v _ => iv; rename Is M G v' _ => iv'
    obtain ⟨t, u, b, ht, hu, hb, h⟩ := isiD_ok h
    exact ⟨v, v', t, u, b, rfl, clsD_ok hu iv', by rw [hK]; exact tyD_ok R.ex ht iv, by rw [hK]; exact hb, k G _ _ n H Adv.refl R (by simp only [Is]) h⟩
  · exact h.elim
theorem kit_int_int : kitB "int" "int" = some true := by decide +kernel
theorem kit_int_bool : kitB "int" "bool" = some false := by decide +kernel
theorem kit_int_str : kitB "int" "str" = some false := by decide +kernel
theorem kit_int_list : kitB "int" "list" = some false := by decide +kernel
theorem kit_int_tuple : kitB "int" "tuple" = some false := by decide +kernel
theorem kit_bool_int : kitB "bool" "int" = some true := by decide +kernel
theorem kit_bool_bool : kitB "bool" "bool" = some true := by decide +kernel
theorem kit_bool_str : kitB "bool" "str" = some false := by decide +kernel
theorem kit_bool_list : kitB "bool" "list" = some false := by decide +kernel
theorem kit_bool_tuple : kitB "bool" "tuple" = some false := by decide +kernel
theorem kit_str_int : kitB "str" "int" = some false := by decide +kernel
theorem kit_str_bool : kitB "str" "bool" = some false := by decide +kernel
theorem kit_str_str : kitB "str" "str" = some true := by decide +kernel
theorem kit_str_list : kitB "str" "list" = some false := by decide +kernel
theorem kit_str_tuple : kitB "str" "tuple" = some false := by decide +kernel
theorem kit_non_int : kitB "NoneType" "int" = some false := by decide +kernel
theorem kit_non_bool : kitB "NoneType" "bool" = some false := by decide +kernel
theorem kit_non_str : kitB "NoneType" "str" = some false := by decide +kernel
theorem kit_non_list : kitB "NoneType" "list" = some false := by decide +kernel
theorem kit_non_tuple : kitB "NoneType" "tuple" = some false := by decide +kernel
theorem kit_list_int : kitB "list" "int" = some false := by decide +kernel
theorem kit_list_bool : kitB "list" "bool" = some false := by decide +kernel
theorem kit_list_str : kitB "list" "str" = some false := by decide +kernel
theorem kit_list_list : kitB "list" "list" = some true := by decide +kernel
theorem kit_list_tuple : kitB "list" "tuple" = some false := by decide +kernel
theorem kit_tuple_int : kitB "tuple" "int" = some false := by decide +kernel
theorem kit_tuple_bool : kitB "tuple" "bool" = some false := by decide +kernel
theorem kit_tuple_str : kitB "tuple" "str" = some false := by decide +kernel
theorem kit_tuple_list : kitB "tuple" "list" = some false := by decide +kernel
theorem kit_tuple_tuple : kitB "tuple" "tuple" = some true := by decide +kernel
/-! ### methods of texts -/
abbrev GM := D → List D → NS → (D → NS → Prop) → Prop
def gUpper : GM := fun x xs n q => match x, xs with | .str l, [] => l.length ≤ 100000 ∧ l.all (· < 128) = true ∧ q (.str (l.map up1)) n | _, _ => False
def gLower : GM := fun x xs n q => match x, xs with | .str l, [] => l.length ≤ 100000 ∧ l.all (· < 128) = true ∧ q (.str (l.map lo1)) n | _, _ => False
theorem drm_upper : DRM M (fun x xs H Q => ∃ a, x = .str a ∧ xs = [] ∧ a.length ≤ 5592405 ∧ Q (.str (Txt.upper a)) H) gUpper := by
  intro pn G n σ δ H v vs x xs q Q R iv ivs h k
  unfold gUpper at h
  split at h
  · rename_i l
    simp only [Is] at iv
    have e := ivs.length
    have e2 : vs = [] := List.eq_nil_of_length_eq_zero e
    subst e2
    exact ⟨S l, iv, rfl, by rw [S_len]; exact Nat.le_trans h.1 (by decide), k G _ _ n H Adv.refl R (by simp only [Is]; rw [show Txt.upper (S l) = S (l.map up1) from SX.upper_S h.2.1]) h.2.2⟩
  · exact h.elim
theorem drm_lower : DRM M (fun x xs H Q => ∃ a, x = .str a ∧ xs = [] ∧ a.length ≤ 5592405 ∧ Q (.str (Txt.lower a)) H) gLower := by
  intro pn G n σ δ H v vs x xs q Q R iv ivs h k
  unfold gLower at h
  split at h
  · rename_i l
    simp only [Is] at iv
    have e := ivs.length
    have e2 : vs = [] := List.eq_nil_of_length_eq_zero e
    subst e2
    exact ⟨S l, iv, rfl, by rw [S_len]; exact Nat.le_trans h.1 (by decide), k G _ _ n H Adv.refl R (by simp only [Is]; rw [show Txt.lower (S l) = S (l.map lo1) from SX.lower_S h.2.1]) h.2.2⟩
  · exact h.elim
/-- text.index(text), found -/
def gIndex : GM := fun x xs n q => match x, xs with
  | .str a, [.str b] => ∃ i rest, Builtin.Str.occurrences (S a) (S b) 0 (S a).length 1 = i :: rest ∧ q (.int (i : Nat)) n
  | _, _ => False
theorem drm_index : DRM M (fun x xs H Q => ∃ a b i rest, x = .str a ∧ xs = [.str b] ∧ Builtin.Str.occurrences a b 0 a.length 1 = i :: rest ∧ Q (.int (i : Nat)) H) gIndex := by
  intro pn G n σ δ H v vs x xs q Q R iv ivs h k
  unfold gIndex at h
  split at h
  · rename_i a b
    simp only [Is] at iv
    obtain ⟨u, rfl, iu⟩ := ivs.one
    simp only [Is] at iu
    obtain ⟨i, rest, e, h⟩ := h
    exact ⟨S a, S b, i, rest, iv, by rw [iu], e, k G _ _ n H Adv.refl R (by simp only [Is]) h⟩
  · exact h.elim
theorem pe_index {o e : Expr} {to te : TE} {apos pos : Pos} (ho : PE X o to) (he : PE X e te) (hs : starEach [e] X.env = [(false, eval e X.env)] := by rfl) (hbase : attributeBase o "index" X.env (eval o X.env) = eval o X.env := by rfl) (hline : (apos.endLine == pos.line) = true := by rfl) :
    PE X (.Call (.Attribute o "index" apos) [e] [] pos) (tM1 (fun x xs H Q => ∃ a b i rest, x = .str a ∧ xs = [.str b] ∧ Builtin.Str.occurrences a b 0 a.length 1 = i :: rest ∧ Q (.int (i : Nat)) H) to te) :=
  pe_m1 F.slot_str_index F.type_str_index mt_sindex ho he hs hbase hline
end
end DL

set_option Elab.async false
set_option linter.all false
set_option maxRecDepth 100000
set_option maxHeartbeats 4000000
set_option autoImplicit false
/-! An own exception class called with keywords. -/
namespace PySem
namespace EK
open PySem.W PySem.Calls PyProof.Rows PySem.HandSPX
section
variable {M : Model} {A : Around} {E : Value → Shared → Prop} {h : Heap} {g : Array GenState} {d : Drawn} {t : Nat} {os : OsState}
variable {nm q : Str} {C N : Addr} {bs bm bmB : List Value} {hdct : Bool} {sn : List Str} {sub : List Value} {ab : Bool} {col : Option Bool} {dd : Option Addr} {k0 k1 k2 k3 k5 : Option Value} {B newId initId : String}
theorem chk_new (F : ExcBaseFacts B newId initId bmB) (hT : ∀ X : String, bm.contains (.type X) = bmB.contains (.type X)) {us : List Value} {kw : List (Str × Value)} {Q : Unit → Shared → Prop}
    (hC : h.get? C = some (excClassObj nm q C N bs bm hdct sn sub ab col dd k0 k1 k2 k3 k5 newId)) (hq : Q () ⟨h, g, d, t, os⟩) : wpAny M A (checkBuiltinCall newId ⟨.ref C :: us, kw⟩) Q E ⟨h, g, d, t, os⟩ := by
  have hB : (Value.ref C :: bm).contains (.type B) = true := by rw [List.contains_cons, hT, F.hasB, Bool.or_true]
  have hs := F.noStar
  simp only [checkBuiltinCall, F.newKind, F.newSplit, F.newRow]
  repeat (first | refine wpAny_loadPart_at hC ?_ | (refine wpAny_isSubtype_exc hC ?_; rw [hB]) | refine wpAny_staticBase_exc hC ?_ | refine wpAny_madeBy_exc hC ?_ | simp only [bne_self_eq_false, Bool.false_eq_true, if_false] | wp_step)
  exact hq
end
section
variable {prog : Program} {w : World} {A : Around} {E : Value → Shared → Prop} {R : Result → Shared → Prop} {h : Heap} {g : Array GenState} {d : Drawn} {t : Nat} {os : OsState}
variable {nm q : Str} {C N : Addr} {bs bm bmB : List Value} {hdct : Bool} {sn : List Str} {sub : List Value} {ab : Bool} {col : Option Bool} {dd : Option Addr} {k0 k1 k2 k3 k5 : Option Value} {B newId initId : String}
theorem mk_new (F : ExcBaseFacts B newId initId bmB) (hT : ∀ X : String, bm.contains (.type X) = bmB.contains (.type X)) {us : List Value} {kw : List (Str × Value)}
    (hC : h.get? C = some (excClassObj nm q C N bs bm hdct sn sub ab col dd k0 k1 k2 k3 k5 newId))
    (hq : R (.ok (.ret (.ref (h.objs.size + 1)))) ⟨(h.push { cls := .type "tuple", data := .seq us.toArray }).push { cls := .ref C, data := .fields #[.ref h.objs.size, .none, .none, .none, .bool false, .none] }, g, d, t, os⟩) (hz : us.length ≤ sizeLine) :
    codeAny (model prog w) A (.builtin newId ⟨.ref C :: us, kw⟩) R ⟨h, g, d, t, os⟩ := by
  have he := F.ends
  have hB : (Value.ref C :: bm).contains (.type B) = true := by rw [List.contains_cons, hT, F.hasB, Bool.or_true]
  have hA : (Value.ref C :: bm).contains (.type "AttributeError") = false := by rw [List.contains_cons, hT, F.noAttr]; rfl
  have hN : (Value.ref C :: bm).contains (.type "NameError") = false := by rw [List.contains_cons, hT, F.noName]; rfl
  refine codeAny_builtinAt F.entry ?_
  unfold Builtin.«BaseException.__new__»
  refine wpAt_bind ?_
  show wpAt _ _ _ (stack >>= _) _ _ _
  refine wpAt_bind (wpAt_stack fun p b => wpAt_of_wpAny ?_)
  wp_walk
  refine wpAt_of_wpAny ?_
  rw [F.owner]
  repeat (first | with_reducible refine wpAny_madeHere_exc F.canon hC ?_ | with_reducible refine wpAny_loadPart_at hC ?_ | (with_reducible refine wpAny_isSubtype_exc hC ?_; first | rw [hB] | rw [hA] | rw [hN]) | wp_step)
  show R _ _
  rw [Heap.size_push]
  exact hq
theorem tcall (F : ExcBaseFacts B newId initId bmB) (hT : ∀ X : String, bm.contains (.type X) = bmB.contains (.type X)) {us : List Value} {kw : List (Str × Value)} {fI : Value} {Q : Fin → Shared → Prop}
    (hC : h.get? C = some (excClassObj nm q C N bs bm hdct sn sub ab col dd k0 k1 k2 k3 k5 newId))
    (hi : Looks (model prog w) h (typeLookup (.ref C) "__init__") (some fI)) (hb : ∀ self, Looks (model prog w) h (bindSpecial fI self) (fI, [self])) (hz : us.length ≤ sizeLine)
    (hq : codeAny (model prog w) A (.call fI ⟨.ref (h.objs.size + 1) :: us, kw⟩)
      (fun r s' => match r with | .ok (.ret v) => v = .none ∧ Q (.done (.ret (.ref (h.objs.size + 1)))) s' | .ok _ => False | .error e => E e s')
      ⟨(h.push (kdv_tup us)).push (excO C h.objs.size), g, d, t, os⟩) :
    wpAny (model prog w) A (Builtin.«type.__call__» ⟨.ref C :: us, kw⟩) Q E ⟨h, g, d, t, os⟩ := by
  repeat (first | with_reducible refine wpAny_loadPart_at hC ?_ | with_reducible refine wpAny_madeBy_exc hC ?_ | wp_step)
  refine codeAny_call_builtin_code (Code.quiet_builtin _ F.quiet) (chk_new F hT hC ?_)
  refine mk_new F hT hC ?_ hz
  show wpAny _ _ _ _ _ _
  have k : ∀ b o, h.get? b = some o → ((h.push (kdv_tup us)).push (excO C h.objs.size)).get? b = some o := fun b o e => Heap.get?_push_of_some _ (Heap.get?_push_of_some _ e)
  have hC1 := k _ _ hC
  have hg : ((h.push (kdv_tup us)).push (excO C h.objs.size)).get? (h.objs.size + 1) = some (excO C h.objs.size) := by heap_get
  have hcC : (Value.ref C :: bm).contains (.ref C) = true := by simp
  have j1 := hi.keeps k
  have j2 := (hb (.ref (h.objs.size + 1))).keeps k
  unfold isInstance
  repeat (first | with_reducible refine wpAny_loadPart_at hg ?_ | (with_reducible refine wpAny_isSubtype_exc hC1 ?_; rw [hcC]) | wp_step)
  show wpAny _ _ (typeLookup (.ref C) _) _ _ _
  refine j1.at ?_
  refine wpAny_holding (wpAny_bind (j2.at ?_))
  refine wpAny_bind (wpAny_call (codeAny_mono hq fun r s' z => ?_))
  rcases r with e | (v | _ | _ | _) <;> first | exact z | exact z.elim | skip
  obtain ⟨rfl, z⟩ := z
  first
    | exact wpAny_pure (wpAny_pure z)
    | (wp_walk; exact z)
theorem call_kw (F : ExcBaseFacts B newId initId bmB) (hT : ∀ X : String, bm.contains (.type X) = bmB.contains (.type X)) {us : List Value} {kw : List (Str × Value)} {fI : Value}
    (hC : h.get? C = some (excClassObj nm q C N bs bm hdct sn sub ab col dd k0 k1 k2 k3 k5 newId))
    (hi : Looks (model prog w) h (typeLookup (.ref C) "__init__") (some fI)) (hb : ∀ self, Looks (model prog w) h (bindSpecial fI self) (fI, [self])) (hz : us.length ≤ sizeLine)
    (hq : codeAny (model prog w) (A.under (.builtin "type.__call__" ⟨.ref C :: us, kw⟩)) (.call fI ⟨.ref (h.objs.size + 1) :: us, kw⟩) (InitBack (h.objs.size + 1) R)
      ⟨(h.push (kdv_tup us)).push (excO C h.objs.size), g, d, t, os⟩) :
    codeAny (model prog w) A (.call (.ref C) ⟨us, kw⟩) R ⟨h, g, d, t, os⟩ := by
  have f1 := tc_lookup
  have f2 := tc_bind (.ref C)
  have hy : (⟨h, g, d, t, os⟩ : Shared).TypeIs (.ref C) "type" := ⟨_, hC, rfl⟩
  refine codeAny_of_tree ?_
  show wpAny _ _ (callAny (.ref C) _) _ _ _
  repeat (any_goals (first | assumption | with_reducible refine wpAny_loadPart_at hC ?_ | wp_step))
  refine ⟨rfl, ?_⟩
  refine codeAny_call_builtin_at (Code.quiet_builtin _ (by decide +kernel)) entry_typeCall (wpAny_check_type_call_sub hC (tcall F hT hC hi hb hz ?_))
  refine codeAny_mono hq fun r s' z => ?_
  rcases r with e | (v | _ | _ | _) <;> exact z
end
end EK
end PySem

set_option Elab.async false
set_option linter.all false
set_option maxRecDepth 100000
set_option maxHeartbeats 2000000
set_option autoImplicit false
/-! An own error of one field whose __init__ says super().__init__(f), above ValueError by way of other own classes: made, raised. -/
namespace PySem
namespace EX
open PySem.W PySem.Calls PyProof.Rows PySem.HandSPX
/-! ### the text of __init__ -/
def iA (f : Str) (p1 p2 : Pos) : Arguments := { posonlyargs := [], args := [{ arg := "self", annotation := none, pos := p1 }, { arg := f, annotation := none, pos := p2 }], vararg := none, kwonlyargs := [], kw_defaults := [], kwarg := none, defaults := [] }
def iB (f : Str) (a1 a2 a3 a4 a5 a6 b1 b2 b3 b4 : Pos) : List Stmt :=
  [.Expr (.Call (.Attribute (.Call (.Name "super" a1) [] [] a2) "__init__" a3) [.Name f a4] [] a5) a6, .Assign [.Attribute (.Name "self" b1) f b2] (.Name f b3) b4]
def iS (f : Str) : Scope := { kind := .function, names := [(PySem.Str.ofString "self", .local), (f, .local), (PySem.Str.ofString "__class__", .free), (PySem.Str.ofString "super", .globalImplicit)], isGenerator := false, isCoroutine := false, more := [] }
/-- what the written part says of the class x, at C, of its field f, and of its __init__, at fI -/
structure ErrTxt (P : Program) (K : Frag) (mg : Str → Option Value) (x f : Str) (C fI : Addr) : Prop where
  gC : mg x = some (.ref C)
  cls : ∃ nm q N bs bm sn sub ab col dd k0 k1 k2 k3 k5, K.lookup C = some (excClassObj nm q C N bs bm true sn sub ab col dd k0 k1 k2 k3 k5 "ValueError.__new__") ∧ refsVE bm = true
  sa : findIn K (.ref C) "__setattr__" = some (some (.builtin "object.__setattr__"))
  ga : findIn K (.ref C) "__getattribute__" = some (some (.builtin "BaseException.__getattribute__"))
  gg : findIn K (.ref C) "__getattr__" = some none
  noN : findIn K (.ref C) f = some none
  iC : findIn K (.ref C) "__init__" = some (some (.ref fI))
  tC : typeIn K (.ref fI) = some (.type "function")
  kC : keepIn K (.ref C) = true
  exC : subIn K (.ref C) (.type "BaseException") = some true
  veC : subIn K (.ref C) (.type "ValueError") = some true
  tyC : typeIn K (.ref C) = some (.type "type")
  hdC : hasDictIn K C = true
  sup : ks_superIn K C C "__init__" = some (some (.builtin "ValueError.__init__"))
  slf : mroIn K C (.ref C) = some true
  opq : nsIn K cStatics "thirdparty.any" = some none
  gS : mg "super" = none
  htop : (P.main.scope.names.lookup ("super" : Str)).isSome = false
  fself : (f == ("self" : Str)) = false
  fdb : (f == ("__debug__" : Str)) = false
  ks : (iS f).names.lookup ("super" : Str) = some .globalImplicit
  kc : (iS f).names.lookup ("__class__" : Str) = some .free
  fn : ∃ (oc : Value) (od : Option Addr) (doc pm : Value) (an : Option Addr) (cda cc : Addr) (ct : Value) (osl : Array (Option Value)) (qual : Str) (p1 p2 a1 a2 a3 a4 a5 a6 b1 b2 b3 b4 : Pos) (ccl : Value) (cdd : Option Addr) (vs : Array Value) (ccs : Array (Option Value)) (file : Str) (tf : Tok)
      (cl : Value) (cld : Option Addr) (csl : Array (Option Value)),
    K.lookup fI = some ⟨oc, od, .func (ksFn "__init__" qual (iA f p1 p2) (iB f a1 a2 a3 a4 a5 a6 b1 b2 b3 b4) (iS f) .none .none doc pm an (.ref cda) ct cc), osl⟩ ∧ codeIn K (.ref cda) qual = true ∧
    K.lookup cda = some ⟨ccl, cdd, .fields vs, ccs⟩ ∧ vs[2]? = some (.str file tf) ∧ ((P.main.file : Str) == file) = true ∧ K.lookup cc = some ⟨cl, cld, .cell (some (.ref C)), csl⟩ ∧
    (∀ (a b : Value), bindArgs (ksFn "__init__" qual (iA f p1 p2) (iB f a1 a2 a3 a4 a5 a6 b1 b2 b3 b4) (iS f) .none .none doc pm an (.ref cda) ct cc) ⟨[a, b], []⟩ = pure [(("self" : Str), a), (f, b)]) ∧
    (∀ (a b : Value), bindArgs (ksFn "__init__" qual (iA f p1 p2) (iB f a1 a2 a3 a4 a5 a6 b1 b2 b3 b4) (iS f) .none .none doc pm an (.ref cda) ct cc) ⟨[a], [(f, b)]⟩ = pure [(("self" : Str), a), (f, b)]) ∧
    (∀ env : Env, env.scope = iS f → ∃ pl, eval (.Call (.Attribute (.Call (.Name "super" a1) [] [] a2) "__init__" a3) [.Name f a4] [] a5) env = (do
      let ov ← attributeBase (.Call (.Name "super" a1) [] [] a2) "__init__" env (eval (.Call (.Name "super" a1) [] [] a2) env)
      standAt a3.atName
      let (g, first) ← holding [ov] (getMethod ov "__init__" pl)
      callWith a5 g first (backTo a5 (starEach [.Name f a4] env)) []))
theorem one_size (v : Value) : [v].length ≤ sizeLine := by
  rw [sizeLine_eq]
  exact (by decide : 1 ≤ 16777216)
theorem ldC {M : Model} {s : Shared} {env : Env} {m : Str → Option Value} {x : Str} {pos : Pos} {v : Value} {Q : Value → Shared → Prop} {A : Around} {E : Value → Shared → Prop} (hn : s.heap.Ns env.locals m) (hv : m x = some v) (h : Q v s)
    (hk : env.scope.kind = .function) (hl : env.kindOf x = some .local) (hd : (x == ("__debug__" : Str)) = false) : wpAny M A (eval (.Name x pos) env) Q E s := wpAny_Name (wpAny_loadName_local hk hl hn hv h) hd
/-- what __init__ leaves of a fresh exception at x -/
structure InitEnd (h h' : Heap) (x C dx t1 : Addr) (f : Str) (v : Value) : Prop where
  keep : ∀ b o, b ≠ x → h.get? b = some o → h'.get? b = some o
  obj : h'.get? x = some { cls := .ref C, dict := some dx, data := .fields #[.ref t1, .none, .none, .none, .bool false, .none] }
  dbig : h.objs.size ≤ dx
  dne : dx ≠ x
  ns : h'.Ns1 dx (fun y => if y = f then some v else none)
/-- a made one -/
structure OwnMade (h h' : Heap) (e C d : Addr) (f : Str) (v : Value) : Prop where
  keep : ∀ b o, h.get? b = some o → h'.get? b = some o
  new : h.objs.size ≤ e
  obj : ∃ oe vs, h'.get? e = some oe ∧ oe.cls = .ref C ∧ oe.dict = some d ∧ oe.data = .fields vs ∧ vs[1]? = some .none
  dbig : h.objs.size ≤ d
  dne : d ≠ e
  ns : h'.Ns1 d (fun y => if y = f then some v else none)
section
variable {prog : Program} {w : World} {A : Around} {E : Value → Shared → Prop} {s : Shared}
/-- ValueError.__init__ bound to the exception at x, called -/
theorem call_mw {K : Frag} {nm q : Str} {C N u x t0 : Addr} {bs bm : List Value} {sn : List Str} {sub : List Value} {ab : Bool} {col : Option Bool} {dd : Option Addr} {k0 k1 k2 k3 k5 : Option Value} {rest : List Value} {Q : Value → Shared → Prop}
    (hC : s.heap.get? C = some (excClassObj nm q C N bs bm true sn sub ab col dd k0 k1 k2 k3 k5 "ValueError.__new__")) (hx : s.heap.get? x = some (excO C t0)) (hu : s.heap.get? u = some (kxs_mw "ValueError.__init__" x)) (hz : rest.length ≤ sizeLine)
    (h : ∀ h', (∀ b o, b ≠ x → s.heap.get? b = some o → h'.get? b = some o) → h'.get? x = some (excO C s.heap.objs.size) → Q .none { s with heap := h' }) :
    wpAny (model prog w) A (call (.ref u) rest) Q E s := by
  obtain ⟨hh, g, d, tk, os⟩ := s
  refine wpAny_call (codeAny_of_tree ?_)
  show wpAny _ A.in1 (callAny (.ref u) ⟨rest, []⟩) _ _ _
  simp only [callAny]
  refine wpAny_bind (wpAny_load hu ?_)
  simp only [kxs_mw, show (Value.type "method-wrapper" == Value.type "method" || Value.type "method-wrapper" == Value.type "builtin_function_or_method" || Value.type "method-wrapper" == Value.type "method-wrapper") = true by decide, if_true]
  refine W.KFB.if_so (by decide) ?_
  refine wpAny_bind (check_bound_init F.excBase_ValueError.toExcCallFacts hC hx rfl ?_)
  refine wpAny_bind (wpAny_pure (wpAny_pure ?_))
  refine ⟨plainId_quiet F.excBase_ValueError.init.plain _, codeAny_builtin F.excBase_ValueError.initEntry ?_⟩
  exact exc_init_tree (cls := .ref C) (t0 := t0) (dv := none) (c2 := .none) (c3 := .none) (b4 := .bool false) hx hz fun h' k e' _ => h h' k e'
end
section
variable {prog : Program} {w : World} {A : Around} {E : Value → Shared → Prop} {R : Result → Shared → Prop} {s : Shared} {K : Frag} {mg : Str → Option Value} {f x : Str} {C fI : Addr} {base : Heap}
theorem err_init (T : ErrTxt prog K mg x f C fI) (Md : L2.Mod K mg base) (bk : ∀ b o, base.get? b = some o → s.heap.get? b = some o) {x t0 : Addr} {v : Value} (X : K.In s.heap) (hlim : s.heap.NoLimit) (hx : s.heap.get? x = some (excO C t0)) (hnx : K.lookup x = none) (hroom : A.depth < recursionLimit)
    {ar : Args} (har : ar = ⟨[.ref x, v], []⟩ ∨ ar = ⟨[.ref x], [(f, v)]⟩) (hq : ∀ h' tk dx t1, InitEnd s.heap h' x C dx t1 f v → R (.ok (.ret .none)) { s with heap := h', toks := tk }) :
    codeAny (model prog w) A (.call (.ref fI) ar) R s := by
  obtain ⟨oc, od, doc, pm, an, cda, cc, ct, osl, qual, p1, p2, a1, a2, a3, a4, a5, a6, b1, b2, b3, b4, ccl, cdd, vs, ccs, file, tf, cl, cld, csl, ho, hcd, hcode, hvs, hfile, hcell, hbnd, hbnk, hev⟩ := T.fn
  obtain ⟨nm, q, N, bs, bm, sn, sub, ab, col, dd, k0, k1, k2, k3, k5, hC, hbm⟩ := T.cls
  have hcl : clsIn K C = some { name := nm, bases := bs, mro := .ref C :: bm, ns := N, qualname := q, hasDict := true, slotNames := sn, subclasses := sub, abstract := ab, collection := col, hasDel := false } := by unfold clsIn; rw [hC] <;> rfl
  have fs := T.fself
  have sf : (("self" : Str) == f) = false := by
    cases e : (("self" : Str) == f) with
    | false => rfl
    | true =>
      rw [eq_of_beq e] at fs
      simp at fs
  have kself : (iS f).names.lookup ("self" : Str) = some .local := rfl
  have kf : (iS f).names.lookup f = some .local := by
    show List.lookup f [(PySem.Str.ofString "self", NameKind.local), (f, NameKind.local), (PySem.Str.ofString "__class__", NameKind.free), (PySem.Str.ofString "super", NameKind.globalImplicit)] = _
    have : (f == PySem.Str.ofString "self") = false := fs
    simp [List.lookup, this]
  have mself : (([(("self" : Str), .ref x), (f, v)] : List (Str × Value)).reverse.lookup ("self" : Str)) = some (.ref x) := by
    simp [List.lookup, sf]
  have mf : (([(("self" : Str), .ref x), (f, v)] : List (Str × Value)).reverse.lookup f) = some v := by
    simp [List.lookup]
  refine ks_codeAny_call_defAt (fd := ksFn "__init__" qual (iA f p1 p2) (iB f a1 a2 a3 a4 a5 a6 b1 b2 b3 b4) (iS f) .none .none doc pm an (.ref cda) ct cc) (binds := [(("self" : Str), .ref x), (f, v)]) hroom (X _ _ ho) rfl hlim (codeRec_of X hcd) rfl (BindsTo.of_eq (by rcases har with rfl | rfl <;> first | exact hbnd _ _ | exact hbnk _ _)) ?hcell ?hloc (fun h₁ hns hk₁ => ?_) rfl rfl rfl
  case hcell =>
    intro y hy
    simp only [iS, List.mem_cons, List.not_mem_nil, or_false] at hy
    rcases hy with rfl | rfl | rfl | rfl <;> exact fun z => nomatch z
  case hloc =>
    intro y hy
    simp only [List.mem_cons, List.not_mem_nil, or_false] at hy
    rcases hy with rfl | rfl
    · exact kself
    · exact kf
  have hxL : s.heap.objs.size ≠ x := Nat.ne_of_gt (Heap.lt_size hx)
  have X₁ : K.In h₁ := X.keeps hk₁
  have hx₁ := hk₁ _ _ hx
  have I₁ : InstAt h₁ x (excO C t0) C none := ⟨hx₁, rfl, rfl, trivial⟩
  obtain ⟨mb, hb1, hb2⟩ := Md.blt
  have bk₁ : ∀ b o, base.get? b = some o → h₁.get? b = some o := fun b o e => hk₁ b o (bk b o e)
  obtain ⟨oD, hD1, hD2⟩ : ∃ oD, h₁.get? C = some oD ∧ ∃ cd, oD.data = .cls cd := ⟨_, X₁ _ _ hC, _, rfl⟩
  obtain ⟨cdD, hD2⟩ := hD2
  obtain ⟨pl, hev⟩ := hev (callEnv (ksFn "__init__" qual (iA f p1 p2) (iB f a1 a2 a3 a4 a5 a6 b1 b2 b3 b4) (iS f) .none .none doc pm an (.ref cda) ct cc) s.heap.objs.size fI) rfl
  refine ks_wpAt_execs_cons (ks_wpAt_Expr_any (ks_wpAt_MethodCall (pl := pl) ?_ hev))
  refine ks_wpAt_super_base (fd := ksFn "__init__" qual (iA f p1 p2) (iB f a1 a2 a3 a4 a5 a6 b1 b2 b3 b4) (iS f) .none .none doc pm an (.ref cda) ct cc) T.ks T.kc (by decide) rfl (X₁ _ _ ho) rfl (ar := { arg := "self", annotation := none, pos := p1 }) rfl (cc := cda) rfl (X₁ _ _ hcode) rfl hvs hfile T.htop ?_
  refine ks_loadName_global rfl T.ks (loadGlobal_builtin (Md.glob.keeps bk₁) T.gS (hb1.keeps bk₁) ((hb2 "super" (by decide)).trans (by decide +kernel : bootBuiltins "super" = some (.type "super"))) ⟨rfl, ?_⟩)
  refine wpAny_loadName_free rfl T.kc (c := cc) (v := .ref C) rfl ⟨_, X₁ _ _ hcell, rfl⟩ ?_
  refine wpAny_loadName_local rfl rfl hns mself ?_
  refine ks_wpAny_isType_cls hD1 hD2 ⟨rfl, ?_⟩
  refine ks_wpAny_call_super hD1 hD2 I₁.at_ I₁.cls (fun c e => nomatch e) (looks_mroIn X₁ T.slf) (fun h₂ hso hk₂ => ?_)
  have X₂ : K.In h₂ := X₁.keeps hk₂
  have hx₂ := hk₂ _ _ hx₁
  have I₂ : InstAt h₂ x (excO C t0) C none := ⟨hx₂, rfl, rfl, trivial⟩
  have hI : Looks (model prog w) h₂ (isInstance (.ref x) (.type "ValueError")) true := I₂.type.andThen (looks_subIn X₂ T.veC)
  have hs := T.sup
  unfold ks_superIn at hs
  rw [hcl] at hs
  refine kxs_getMethod kxs_ValueError hso (looks_opaque X₂ T.opq) (l₀ := .ref C :: bm) (fun A Q E s k q => wpAny_bind ((looks_clsIn X₂ hcl) A _ E s k (wpAny_pure q))) rfl X₂ hs hI (ks_ne X₂ I₂ hcl) (by decide) ?_
  have hk₃ : ∀ b o, h₂.get? b = some o → (h₂.push (kxs_mw "ValueError.__init__" x)).get? b = some o := fun b o e => Heap.get?_push_of_some _ e
  have hu : (h₂.push (kxs_mw "ValueError.__init__" x)).get? h₂.objs.size = some (kxs_mw "ValueError.__init__" x) := Heap.get?_push_at rfl rfl
  have hns₃ := (hns.keeps hk₂).keeps hk₃
  refine kxs_callWith (i := "ValueError.__init__") (x := x) rfl (evalArgs_plain (Calls.spliced_cons ?_))
  refine ldC (v := v) (hns₃) mf ?_ rfl kf T.fdb
  refine Calls.spliced_nil ⟨hu, ?_⟩
  refine call_mw (K := K) (hk₃ _ _ (X₂ _ _ hC)) (hk₃ _ _ hx₂) hu (one_size v) (fun h₄ hk₄ hx₄ => ?_)
  have hk14 : ∀ b o, b ≠ x → h₁.get? b = some o → h₄.get? b = some o := fun b o hb e => hk₄ b o hb (hk₃ _ _ (hk₂ _ _ e))
  have X₄ : K.In h₄ := fun a o e => hk14 a o (fun z => by rw [z, hnx] at e; cases e) (X₁ _ _ e)
  have hns₄ : h₄.Ns s.heap.objs.size (fun y => ([("self", .ref x), (f, v)] : List (Str × Value)).reverse.lookup y) := by
    obtain ⟨oL, es, ep, hL, r⟩ := hns
    exact ⟨oL, es, ep, hk14 _ _ hxL hL, r⟩
  show wpAt _ _ _ (execs _ _) _ _ _
  refine wpAt_of_wpAny (wpAny_execs_cons (plainObj_wpAny_Assign_Attribute ?_))
  refine ldC (v := v) hns₄ mf (ldC (v := .ref x) hns₄ mself ?_ rfl rfl (by decide)) rfl kf T.fdb
  refine set_plain X₄ (ox := _) (od := none) ⟨hx₄, rfl, rfl, trivial⟩ T.sa ?_
  refine exc_osa X₄ hx₄ hcl (show refsVE (.ref C :: bm) = true from hbm) rfl T.noN (fun h₅ tk₅ dx k₅ dn dne hx₅ hn₅ => ?_)
  show wpAny _ _ (execs _ _) _ _ _
  have z : s.heap.objs.size ≤ h₄.objs.size := by
    obtain ⟨oL, es, ep, hL, r⟩ := hns₄
    exact Nat.le_of_lt (Heap.lt_size hL)
  exact wpAny_execs_nil (hq h₅ tk₅ dx _ ⟨fun b o hb e => k₅ b o hb (hk14 b o hb (hk₁ b o e)), hx₅, Nat.le_trans z dn, dne, hn₅⟩)
theorem err_made (T : ErrTxt prog K mg x f C fI) (Md : L2.Mod K mg base) (bk : ∀ b o, base.get? b = some o → s.heap.get? b = some o) {v : Value} (X : K.In s.heap) (hlim : s.heap.NoLimit) (hroom : A.depth + 1 < recursionLimit)
    {us : List Value} {kw : List (Str × Value)} (har : (us = [v] ∧ kw = []) ∨ (us = [] ∧ kw = [(f, v)])) (hq : ∀ h' tk e d, OwnMade s.heap h' e C d f v → R (.ok (.ret (.ref e))) { s with heap := h', toks := tk }) :
    codeAny (model prog w) A (.call (.ref C) ⟨us, kw⟩) R s := by
  obtain ⟨nm, q, N, bs, bm, sn, sub, ab, col, dd, k0, k1, k2, k3, k5, hC, hbm⟩ := T.cls
  obtain ⟨hp, g, dr, tk, os⟩ := s
  have k : ∀ b o, hp.get? b = some o → ((hp.push (kdv_tup us)).push (excO C hp.objs.size)).get? b = some o := fun b o e => Heap.get?_push_of_some _ (Heap.get?_push_of_some _ e)
  have hget : ((hp.push (kdv_tup us)).push (excO C hp.objs.size)).get? (hp.objs.size + 1) = some (excO C hp.objs.size) := by heap_get
  have hnx : K.lookup (hp.objs.size + 1) = none := by
    cases e : K.lookup (hp.objs.size + 1) with
    | none => rfl
    | some o =>
      have z : hp.get? (hp.objs.size + 1) = some o := X _ _ e
      exact absurd (Nat.lt_of_succ_lt (Heap.lt_size z)) (Nat.lt_irrefl _)
  have hz : us.length ≤ sizeLine := by
    rcases har with ⟨rfl, _⟩ | ⟨rfl, _⟩
    · exact one_size v
    · exact Nat.zero_le _
  refine EK.call_kw F.excBase_ValueError (fun X => refsVE_contains X bm hbm) (X _ _ hC) (looks_findIn X T.iC) (fun self => bind_fn X self T.tC) hz ?_
  refine err_init (v := v) (s := ⟨(hp.push (kdv_tup us)).push (excO C hp.objs.size), g, dr, tk, os⟩) T Md (fun b o e => k b o (bk b o e)) (X.keeps k) (hlim.keeps k) hget hnx ?_ (by rcases har with ⟨rfl, rfl⟩ | ⟨rfl, rfl⟩ <;> first | exact .inl rfl | exact .inr rfl) fun h' tk' dx t1 ⟨k', hx, dn, dne, hns⟩ => ?_
  · show A.depth + 1 < recursionLimit
    exact hroom
  · have old : ∀ b o, hp.get? b = some o → h'.get? b = some o := fun b o e => k' b o (Nat.ne_of_lt (Nat.lt_succ_of_lt (Heap.lt_size e))) (k b o e)
    have z : hp.objs.size + 1 + 1 ≤ dx := by
      first
        | (simpa only [Heap.size_push] using dn)
        | exact dn
        | (have q := dn; rw [Heap.size_push, Heap.size_push] at q; exact q)
    exact ⟨rfl, hq h' tk' (hp.objs.size + 1) dx ⟨old, Nat.le_succ _, ⟨_, _, hx, rfl, rfl, rfl, rfl⟩, Nat.le_trans (Nat.le_trans (Nat.le_succ _) (Nat.le_succ _)) z, dne, hns⟩⟩
end
end EX
end PySem
namespace L2
open PySem PySem.Spec PyProof.Rows
theorem relO_err {f : Str} {v : V} {v' : Value} (r : RelV v v') (g : Str) : RelO (List.lookup g [(f, v)]) (if g = f then some v' else none) := by
  by_cases hw : g = f
  · subst hw
    rw [if_pos rfl]
    have q : List.lookup g [(g, v)] = some v := by simp [List.lookup]
    rw [q]
    exact r
  · rw [if_neg hw]
    have qw : (g == f) = false := by simpa using hw
    have q2 : List.lookup g [(f, v)] = none := by simp [List.lookup, qw]
    rw [q2]
    trivial
section
variable {X : Cx} {C fI : Addr} {x f : Str}
/-- x(e) -/
def tMkErr (f : Str) (C : Addr) (ta : TA) : St → Hp → XK → Prop := fun σ H Q => ta σ H fun vs H1 => ∃ v, vs = [v] ∧ ∀ d, H1 d = none → Q (.ref C) (some d) (upd H1 d (.xd [(f, v)]))
theorem pmk_err {a : Expr} {ta : TA} {p pos : Pos} {k : Nat} (T : PySem.EX.ErrTxt X.prog X.K X.mg x f C fI) (hr : Room k X.A) (ha : PA X [a] ta) (hg : Gl X x) (hdb : (x == ("__debug__" : Str)) = false)
    (he : starEach (a :: []) X.env = (false, eval a X.env) :: starEach [] X.env := by rfl) (hpl : (backTo pos (starEach [] X.env)).any (·.1) = false := by rfl) :
    PMk X (.Call (.Name x p) [a] [] pos) (tMkErr f C ta) := by
  intro pins s σ H Q I h
  refine wpAny_Call_Name_kw (ld_glob I hg T.gC ?_ hdb)
  refine PySem.W.callWith_K (h₀ := X.base) I.ok.mod.kin T.kC (thn (ha.run pos pins s σ H _ I h) fun us s1 hh => ?_) he hpl
  obtain ⟨vs, H1, I1, r1, v, ev, q1⟩ := hh
  subst ev
  refine ⟨I1.kIn, ?_⟩
  cases r1 with
  | cons rv rn =>
    rename_i v' us'
    cases rn
    show wpAny _ _ (call (.ref C) [v']) _ _ _
    have hlim := I1.nolimit
    have bk1 := I1.bk
    obtain ⟨hp, g, dr, tk, os⟩ := s1
    refine wpAny_call (PySem.EX.err_made T I1.ok.mod bk1 I1.kIn hlim (by have := hr.dp; omega) (.inl ⟨rfl, rfl⟩) fun h' tk' e d M => ?_)
    show MkP X pins σ Q (.ref e) ⟨h', g, dr, tk', os⟩
    obtain ⟨oe, fv, hoe, hc, hd, hdat, h1⟩ := M.obj
    have hns := M.ns
    obtain ⟨G', g1, g2⟩ := restrict h' fun b => decide (b ≠ e)
    have gk : ∀ b, b ≠ e → G'.get? b = h'.get? b := fun b hb => g1 b (decide_eq_true hb)
    have ge : G'.get? e = none := g2 e (by simp)
    have old : ∀ b o, hp.get? b = some o → G'.get? b = some o := fun b o q => (gk b (Nat.ne_of_lt (Nat.lt_of_lt_of_le (Heap.lt_size q) M.new))).trans (M.keep b o q)
    have ob : ObjOk X.prog X.w (upd H1 d (.xd [(f, v)])) G' d (.xd [(f, v)]) :=
      ⟨_, hns.at (fun o q => (gk d M.dne).trans q), fun f => relO_err rv f⟩
    have J : Inv X pins σ (upd H1 d (.xd [(f, v)])) ⟨G', g, dr, tk', os⟩ := I1.laid (t' := tk') old M.dbig ob
    refine ⟨e, oe, fv, ⟨G', g, dr, tk', os⟩, _, .ref C, some d, rfl, J, fun b o q => ?_, ge, hoe, ⟨hc, hd⟩, hdat, h1, ?_, rfl, I1.bare, raises_own T.exC T.tyC, q1 d (I1.hok.fresh M.dbig)⟩
    · by_cases hb : b = e
      · have q' : G'.get? b = some o := q
        rw [hb, ge] at q'; cases q'
      · exact (gk b hb).symm.trans q
    · rw [upd_ne (Ne.symm M.dne)]
      exact I1.hok.fresh M.new
/-- raise x(e) -/
def tRaiseErr (f : Str) (C : Addr) (W : WX) (ta : TA) : TS := fun _ σ H => tMkErr f C ta σ H fun cls d H' => W cls d σ H'
theorem ps_raiseErr {a : Expr} {ta : TA} {W : WX} {p pos pos2 : Pos} {k : Nat} (hc : X.calm = true) (T : PySem.EX.ErrTxt X.prog X.K X.mg x f C fI) (hr : Room k X.A) (tk : Takes X W) (ha : PA X [a] ta) (hg : Gl X x) (hdb : (x == ("__debug__" : Str)) = false)
    (he : starEach (a :: []) X.env = (false, eval a X.env) :: starEach [] X.env := by rfl) (hpl : (backTo pos (starEach [] X.env)).any (·.1) = false := by rfl) :
    PS X (.Raise (some (.Call (.Name x p) [a] [] pos)) none pos2) (tRaiseErr f C W ta) := ps_raise hc tk (pmk_err T hr ha hg hdb he hpl)
end
end L2
namespace DL
open PySem PySem.Spec PyProof.Rows L2
section
variable {X : Cx} {M : LK} {W : WX} {C fI : Addr} {x f : Str}
theorem notTbl_xd {fs : List (Str × V)} : notTbl (.xd fs) := fun ps z => by cases z
/-- raise x(e), x an own error of one field f -/
def dRaise (C : Addr) (f : Str) (fa : DTA) : DTS := fun k δ n => fa δ n (fun xs n1 => xs.length = 1 ∧ k.ex δ C [f] xs n1) k.ex
theorem ds_raise {st : Stmt} {fa : DTA} (h : PS X st (tRaiseErr f C W (liftA M W fa))) : PS X st (liftS M W (dRaise C f fa)) :=
  PSw h fun D₀ σ H ⟨pn, G, n, δ, k, R, hf, s⟩ => by
    refine ⟨pn, G, n, δ, _, k.ex, R, hf, fun G1 vs ds n1 H1 A1 R1 i1 h1 => ?_, s.xe⟩
    obtain ⟨hl, h1⟩ := h1
    match ds, hl with
    | [d], _ =>
      obtain ⟨v, rfl, iv⟩ := i1.one
      refine ⟨v, rfl, fun a ha => ?_⟩
      obtain ⟨R2, A2⟩ := R1.lay (o := .xd [(f, v)]) ha notTbl_xd
      exact s.ex _ σ δ C (some a) [f] [d] n1 _ (R.tr A1 A2) R2 ⟨[(f, v)], upd_same, rfl, by simp only [List.map, IsL]; exact ⟨Is.up A2.ge d v iv, trivial⟩⟩ h1
end
end DL

set_option Elab.async false
set_option linter.all false
set_option maxRecDepth 100000
set_option maxHeartbeats 2000000
set_option autoImplicit false
/-! try: body / except X as e: suite / except Y as e: suite .. -/
namespace L2
open PySem PySem.Spec PyProof.Rows
abbrev HdL := List (Value × Nat × (Addr → Value → Option Addr → TS))
def offE (i : Nat) (D : Ends) : Ends := { nx := fun σ' H' => D.nx (σ'.set i none) H', rt := D.rt, bk := fun σ' H' => D.bk (σ'.set i none) H', ct := fun σ' H' => D.ct (σ'.set i none) H' }
/-- what the clauses wish of an exception of the body, one after the other -/
def wManyAs (K : PySem.W.Frag) (Wout : WX) (D : Ends) : HdL → WX
  | [] => Wout
  | (c, i, ts) :: r => fun cls d σ H => ∃ b, PySem.W.exmOne K cls c = some b ∧ (b = true → ∀ a, H a = none → ts a cls d (offE i D) (σ.set i (some (.ref a))) H) ∧ (b = false → wManyAs K Wout D r cls d σ H)
inductive HdsAs (X : Cx) : List ExceptHandler → HdL → Prop
  | nil : HdsAs X [] []
  | cons {x n : Str} {i : Nat} {c : Value} {ts : Addr → Value → Option Addr → TS} {b₀ : Stmt} {suite : List Stmt} {np pos' : Pos} {hds : List ExceptHandler} {l : HdL} (hi : X.N[i]? = some n) (hln : X.env.kindOf n = some .local) (hc : Names X x c)
      (hsu : ∀ (a : Addr) (oe : Obj) (cls : Value) (d : Option Addr) (pn : List (Addr × Obj)), Zc cls d oe → (∃ vs, oe.data = .fields vs) → PSs (X.suite a ((a, oe) :: pn)) (b₀ :: suite) (ts a cls d)) (r : HdsAs X hds l) :
      HdsAs X (.ExceptHandler (some (.Name x np)) (some n) (b₀ :: suite) pos' :: hds) ((c, i, ts) :: l)
section
variable {X : Cx} {body : List Stmt} {h₀ : ExceptHandler} {hds : List ExceptHandler} {l : HdL} {pos : Pos} {tb : WX → TS} {Wout : WX}
theorem ps_try_manyAs (hs : X.stack = X.env :: X.outer) (hf : X.env.frame = some X.env.locals) (hN : X.N.Nodup) (tk : Takes X Wout)
    (hb : ∀ (W : WX) (pn : List (Addr × Obj)) (xe : Value → Shared → Prop), Takes (X.tr pn xe) W → PassesOwn (model X.prog X.w) X.A X.env xe → PSs (X.tr pn xe) body (tb W))
    (hh : HdsAs X (h₀ :: hds) l) : PS X (.Try body (h₀ :: hds) [] [] pos) (fun D σ H => tb (wManyAs X.K Wout D l) D σ H) := by
  refine ⟨fun pins s σ H D I h => ?_⟩
  have ok := I.ok
  have hfr : X.A.frames = some (X.env :: X.outer) := by rw [ok.frames, hs]
  refine wpAny_Try_except ?_
  refine wpAny_mono ((hb (wManyAs X.K Wout D l) (X.pn ++ pins) (fun e s₁ => wpAny (model X.prog X.w) X.A (noteFrame e X.env) (fun _ s₂ => wpAny (model X.prog X.w) X.A (setFlight e none) (fun _ s₃ =>
    wpAny (model X.prog X.w) X.A (handleBy e X.env (h₀ :: hds)) (SP X pins D) X.xe s₃) X.xe s₂) X.xe s₁) (fun u s' xx => ?_) PassesOwn.looking).run [] s σ H D (I.toTry _) h) (fun f s1 hsp => ?_) (fun e s1 he => he)
  · -- the catch
    obtain ⟨a, B, sI, pins', σ', H', cls, d, rfl, J', nb, up, sky, na, os, ag, w⟩ := xx
    have J : Inv X pins σ' H' sI := J'.ofTry ok
    have sky' : Sky B (X.env :: X.outer) a (Zc cls d) X.env.locals s'.heap := by rw [← hs]; exact sky
    show wpAny (model X.prog X.w) X.A (noteFrame (.ref a) X.env) _ _ _
    refine Sky.land Zc.steady hfr hf sky' fun h3 fl3 up3 => ?_
    have J3 : Inv X pins σ' H' { s' with heap := h3 } := J.landed nb fl3.1 (up.trans up3) os ag
    obtain ⟨oe3, vs3, he3, hz3, hd3⟩ := fl3.there
    have notFr : ∀ {h : Heap} {o : Obj} {vs : Array Value}, h.FunFrames B (X.env :: X.outer) → h.get? a = some o → o.data = .fields vs → a ∉ frs (X.env :: X.outer) := fun {h o vs} ff e dd hm => by
      obtain ⟨_, o', e', hnf⟩ := ff.mem hm
      rw [e] at e'; cases e'
      exact hnf _ dd
    have nfr := notFr fl3.2.2.1 he3 hd3
    have nL : a ≠ X.env.locals := fun z => nfr (List.mem_filterMap.mpr ⟨X.env, List.mem_cons_self, by rw [hf, z]⟩)
    have nF : a ∉ X.fs := fun hm => by
      obtain ⟨e, he, q⟩ := List.mem_filterMap.mp hm
      exact nfr (List.mem_filterMap.mpr ⟨e, List.mem_cons_of_mem _ he, q⟩)
    have S3 := J3.suite he3 hd3 na nL nF
    have go : ∀ {hds' : List ExceptHandler} {l' : HdL}, HdsAs X hds' l' → wManyAs X.K Wout D l' cls d σ' H' →
        wpAny (model X.prog X.w) X.A (handleBy (.ref a) X.env hds') (SP X pins D) X.xe { s' with heap := h3 } := by
      intro hds' l' hk
      induction hk with
      | nil =>
        intro w
        refine wpAny_handleBy_nil ?_
        obtain ⟨k1, k2, k3, oe, vs, T, oT, ts', he, hz, hd, h1, hr⟩ := id fl3
        unfold PySem.passOn
        refine wpAny_bind (wpAny_field he hd h1 ?_)
        rw [if_neg (show ¬ ((Value.ref T == Value.none) = true) from by simp)]
        have fin : wpAny (model X.prog X.w) X.A (setFlight (.ref a) X.env.frame) (fun _ s4 => wpAny (model X.prog X.w) X.A (throw (.ref a) : Sem Flow) (SP X pins D) X.xe s4) X.xe { s' with heap := h3 } := by
          rw [hf]
          refine HandSPX.setFlight_upZ fl3 fun h4 hh4 up4 => wpAny_throw (tk _ _ ?_)
          exact ⟨a, B, sI, pins, σ', H', cls, d, rfl, J, nb, (up.trans up3).trans up4, .inr (.inr (by rw [hs]; exact hh4)), na, os, ag, w⟩
        first
          | exact wpAny_bind (wpAny_pure (wpAny_bind fin))
          | exact wpAny_bind fin
      | @cons x n i c ts b₀ suite np pos' hds2 l2 hi hln hc hsu r ih =>
        intro w
        obtain ⟨b, hb1, hyes, hno⟩ := w
        have hloc : Loc X.env.scope n := .inl hln
        refine wpAny_handleBy_cons (codeAny_handlers_test ?_) (by intro q; cases q)
        have LT : PySem.W.Looks (model X.prog X.w) h3 (typeOf (.ref a)) cls := fun A Q E s k q => wpAny_typeOf_ref (k _ _ he3) (by rw [hz3.1]; exact q)
        have LM := PySem.W.exm_one (M := model X.prog X.w) (J3.kIn) LT hb1
        have test : ∀ {Q : Value → Shared → Prop} {E : Value → Shared → Prop}, Q c { s' with heap := h3 } → wpAny (model X.prog X.w) (X.A.mark (some (.ref a))) (eval (.Name x np) X.env) Q E { s' with heap := h3 } := fun {Q E} q => by
          obtain ⟨hg, hdbg, hm | ⟨hm, hv, hnn⟩⟩ := hc
          · exact ld_glob (X := X.suite a ((a, oe3) :: (X.pn ++ pins))) S3 hg hm q hdbg
          · exact ld_blt (X := X.suite a ((a, oe3) :: (X.pn ++ pins))) S3 hg hm hv q hnn hdbg
        refine test (LM.here ?_)
        cases b with
        | true =>
          refine codeAny_handlers_suite_as ?_
          refine HandSPX.lands_againZ fl3 fun h4 fl4 up4 => ?_
          have J4 : Inv X pins σ' H' { s' with heap := h4 } := J.landed nb fl4.1 ((up.trans up3).trans up4) os ag
          obtain ⟨oe4, vs4, he4, hz4, hd4⟩ := fl4.there
          have S4 := J4.suite he4 hd4 na nL nF
          refine store_ok (X := X.suite a ((a, oe4) :: (X.pn ++ pins))) (v := .ref a) S4 hN hi hloc rfl (fun s5 S5 => ?_) (.inr hln)
          refine wpAny_mono ((hsu a oe4 cls d (X.pn ++ pins) hz4 ⟨_, hd4⟩).run [] s5 _ H' _ S5 (hyes rfl a na)) (fun f s6 hsp => ?_) (fun _ _ z => False.elim z)
          have end_ : ∀ {σ6 : St} {H6 : Hp} {Q : Shared → Prop}, Inv (X.suite a ((a, oe4) :: (X.pn ++ pins))) [] σ6 H6 s6 → (∀ s7, Inv X pins (σ6.set i none) H6 s7 → Q s7) →
              wpAny (model X.prog X.w) X.A (do bindName X.env n .none; unbindBehindTheSuite X.env n pos') (fun _ s7 => Q s7) X.xe s6 := fun {σ6 H6 Q} S6 hq => gone_ok (S6.unsuite ok) hN hi hln hq
          cases f with
          | next =>
            obtain ⟨σ6, H6, S6, q6⟩ := hsp
            exact end_ S6 fun s7 J7 => ⟨_, _, J7, q6⟩
          | brk =>
            obtain ⟨σ6, H6, S6, q6⟩ := hsp
            exact end_ S6 fun s7 J7 => ⟨_, _, J7, q6⟩
          | cont =>
            obtain ⟨σ6, H6, S6, q6⟩ := hsp
            exact end_ S6 fun s7 J7 => ⟨_, _, J7, q6⟩
          | ret u =>
            obtain ⟨v6, σ6, H6, S6, r6, q6⟩ := hsp
            exact end_ S6 fun s7 J7 => ⟨_, _, _, J7, r6, q6⟩
        | false =>
          show wpAny _ X.A (handleBy (.ref a) X.env hds2) _ _ _
          exact ih (hno rfl)
    exact go hh w
  · cases f with
    | next =>
      obtain ⟨σ', H', J', q⟩ := hsp
      exact wpAny_execs_nil ⟨σ', H', J'.ofTry ok, q⟩
    | brk =>
      obtain ⟨σ', H', J', q⟩ := hsp
      exact ⟨σ', H', J'.ofTry ok, q⟩
    | cont =>
      obtain ⟨σ', H', J', q⟩ := hsp
      exact ⟨σ', H', J'.ofTry ok, q⟩
    | ret u =>
      obtain ⟨v, σ', H', J', r, q⟩ := hsp
      exact ⟨v, σ', H', J'.ofTry ok, r, q⟩
end
end L2
namespace DL
open PySem PySem.Spec PyProof.Rows L2
section
variable {X : Cx} {M : LK} {W : WX}
abbrev DHs := List (Value × Nat × (Addr → Value → Option Addr → DTS))
def hdOff (i : Nat) (k : DEnds) : DEnds := { nx := fun δ n => k.nx (δ.set i none) n, rt := k.rt, bk := fun δ n => k.bk (δ.set i none) n, ct := fun δ n => k.ct (δ.set i none) n }
def dHds (K : PySem.W.Frag) (k : DEnds) : DHs → DX
  | [] => k.ex
  | (c, i, f) :: r => fun δ C ns ds n => ∃ b, PySem.W.exmOne K (.ref C) c = some b ∧ (b = true → ∀ a (dd : Option Addr), f a (.ref C) dd (hdOff i k) (δ.set i (some (.exc a C dd ns ds))) n) ∧ (b = false → dHds K k r δ C ns ds n)
/-- try / except .. as ..; W0: a suite raises nothing -/
def dTry (K : PySem.W.Frag) (tb : DTS) (l : DHs) : DTS := fun k δ n => tb { k with ex := dHds K k l } δ n
theorem Rep.put' {pn : Addr} {G H : Hp} {n : NS} {σ : L2.St} {δ : DEnv} {i : Nat} (R : Rep M pn G n σ δ H) : Rep M pn G n (σ.set i none) (δ.set i none) H := R.wipe (vs := [i])
theorem hds_ok {pn : Addr} {G H : Hp} {D₀ : Ends} {k : DEnds} (s : SEnd M W pn G H D₀ k) {σ0 : L2.St} {δ0 : DEnv} {n0 : NS} (R0 : Rep M pn G n0 σ0 δ0 H) : ∀ (l : DHs) (G' : Hp) (σ' : L2.St) (δ' : DEnv) (C : Addr) (a : Option Addr) (ns : List Str) (ds : List D) (n' : NS) (H' : Hp), Adv pn G H G' H' → Rep M pn G' n' σ' δ' H' → XIs M G' a ns ds → dHds M.L.K k l δ' C ns ds n' →
    wManyAs M.L.K W D₀ (l.map fun p => (p.1, p.2.1, fun a cls d => liftS M W0 (p.2.2 a cls d))) (.ref C) a σ' H'
  | [], G', σ', δ', C, a, ns, ds, n', H', A', R', hx, h => s.ex G' σ' δ' C a ns ds n' H' A' R' hx h
  | (c, i, f) :: r, G', σ', δ', C, a, ns, ds, n', H', A', R', hx, h => by
    obtain ⟨b, h1, h2, h3⟩ := h
    refine ⟨b, h1, fun hb a0 ha0 => ?_, fun hb => hds_ok s R0 r G' σ' δ' C a ns ds n' H' A' R' hx (h3 hb)⟩
    have s' := s.on R0 A'
    have hi : Is M G' (.ref a0) (.exc a0 C a ns ds) := by
      simp only [Is]
      exact ⟨trivial, hx⟩
    refine ⟨pn, G', n', _, hdOff i k, R'.put hi, h2 hb a0 a, ?_⟩
    exact ⟨fun G2 σ2 δ2 n2 H2 A2 R2 h => s'.nx G2 _ _ n2 H2 A2 R2.put' h, s'.rt, fun G2 σ2 δ2 n2 H2 A2 R2 h => s'.bk G2 _ _ n2 H2 A2 R2.put' h, fun G2 σ2 δ2 n2 H2 A2 R2 h => s'.ct G2 _ _ n2 H2 A2 R2.put' h, fun G2 σ2 δ2 C2 a2 ns2 ds2 n2 H2 A2 R2 _ h => h.elim⟩
theorem ds_try {body : List Stmt} {h₀ : ExceptHandler} {hds : List ExceptHandler} {l : DHs} {pos : Pos} {tb : DTS} (hK : X.K = M.L.K) (hs : X.stack = X.env :: X.outer) (hf : X.env.frame = some X.env.locals) (hN : X.N.Nodup) (tk : Takes X W)
    (hb : ∀ (W' : WX) (pn : List (Addr × Obj)) (xe : Value → Shared → Prop), Takes (X.tr pn xe) W' → PassesOwn (model X.prog X.w) X.A X.env xe → PSs (X.tr pn xe) body (liftS M W' tb))
    (hh : HdsAs X (h₀ :: hds) (l.map fun p => (p.1, p.2.1, fun a cls d => liftS M W0 (p.2.2 a cls d)))) : PS X (.Try body (h₀ :: hds) [] [] pos) (liftS M W (dTry M.L.K tb l)) :=
  PSw (ps_try_manyAs (tb := fun W' => liftS M W' tb) hs hf hN tk hb hh) fun D₀ σ H ⟨pn, G, n, δ, k, R, hf, s⟩ => by
    rw [hK]
    exact ⟨pn, G, n, δ, _, R, hf, ⟨s.nx, s.rt, s.bk, s.ct, fun G' σ' δ' C a ns ds n' H' A' R' hx h => hds_ok s R l G' σ' δ' C a ns ds n' H' A' R' hx h⟩⟩
/-- e.f, e the exception that the suite holds -/
def dXf (a : Addr) (cls : Value) (d : Option Addr) (C : Addr) (f : Str) (te : DTE) : DTE := fun δ n q e => te δ n (fun x n1 => match x with
  | .exc a' C' dd ns xs => (a' = a ∧ C' = C ∧ cls = .ref C ∧ d = dd) ∧ ∃ v, (ns.zip xs).lookup f = some v ∧ q v n1
  | _ => False) e
theorem xd_look {G : Hp} {f : Str} : ∀ {fs : List (Str × V)} {xs : List D} {d : D}, IsL M G (fs.map (·.2)) xs → ((fs.map (·.1)).zip xs).lookup f = some d → ∃ v, fs.lookup f = some v ∧ Is M G v d
  | [], _, d, _, h => by simp at h
  | (g, v) :: fs, [], d, _, h => by simp at h
  | (g, v) :: fs, x :: xs, d, hi, h => by
    simp only [List.map_cons, IsL] at hi
    simp only [List.map_cons, List.zip_cons_cons, List.lookup] at h ⊢
    cases e : f == g with
    | true =>
      rw [e] at h
      cases h
      exact ⟨v, rfl, hi.1⟩
    | false =>
      rw [e] at h
      exact xd_look hi.2 h
theorem dp_xf {e : Expr} {a C : Addr} {cls : Value} {d : Option Addr} {f : Str} {te : DTE} (h : PE X e (tXf a cls d C f (liftE M W te))) : PE X e (liftE M W (dXf a cls d C f te)) :=
  PEw h fun σ H Q ⟨pn, G, n, δ, q, e, R, hf, hQ, hX⟩ => by
    refine ⟨pn, G, n, δ, _, e, R, hf, fun G1 v x n1 H1 A1 R1 i1 h1 => ?_, hX⟩
    cases x with
    | exc a' C' dd ns xs =>
      obtain ⟨⟨rfl, rfl, hc, hd⟩, w, hl, h1⟩ := h1
      simp only [Is] at i1
      obtain ⟨rfl, fs, g1, rfl, g3⟩ := i1
      obtain ⟨u, hu, iu⟩ := xd_look g3 hl
      cases dd with
      | none =>
        cases (show fs = [] from g1)
        cases hu
      | some dd => exact ⟨rfl, hc, dd, fs, u, hd, R1.ex _ _ g1, hu, hQ G1 u w n1 H1 A1 R1 iu h1⟩
    | _ => exact h1.elim
end
end DL

set_option Elab.async false
set_option linter.all false
set_option maxRecDepth 100000
set_option maxHeartbeats 2000000
set_option autoImplicit false
/-! isinstance of a caught error that bears an own dict -/
namespace L2
open PySem PySem.Spec PyProof.Rows
def rIsED (K : PySem.W.Frag) (a : Addr) (cls : Value) (d : Option Addr) : List V → Hp → VK → Prop := fun xs H Q => ∃ (D : Addr) (c : V) (cv : Value) (b : Bool), xs = [.ref a, c] ∧ cls = .ref D ∧ (d = none ∨ ∃ dd fs, d = some dd ∧ H dd = some (.xd fs)) ∧ ExcC K D ∧ (∀ u, RelV c u → u = cv) ∧ PySem.W.kitOne K (.ref D) cv = some b ∧ Q (.bl b) H
theorem call_isED {X : Cx} {a : Addr} {oe : Obj} {cls : Value} {d : Option Addr} {pn : List (Addr × Obj)} (hz : Zc cls d oe) (hf : ∃ vs, oe.data = .fields vs) : CallR (X.suite a ((a, oe) :: pn)) (.builtin "isinstance") (rIsED X.K a cls d) := by
  intro pins s σ H xs us Q I r h
  obtain ⟨D, c, cv, b, rfl, rfl, hx, C, hcv, e, q⟩ := h
  cases r with
  | cons rx rr =>
    cases rr with
    | cons rt rr =>
      cases rr
      cases rx
      have ec := hcv _ rt
      subst ec
      obtain ⟨hget, _⟩ := I.pin (a, oe) (List.mem_append.mpr (.inl List.mem_cons_self))
      obtain ⟨vs, hv⟩ := hf
      rcases hx with rfl | ⟨dd, fs, rfl, hx⟩
      · have J : PySem.W.InstAt s.heap a oe D none := by
          obtain ⟨oc, od, oda, osl⟩ := oe
          obtain ⟨h1, h2⟩ := hz
          dsimp only at h1 h2 hv
          subst h1 h2 hv
          exact ⟨hget, rfl, rfl, trivial⟩
        exact PySem.W.kia_one (PySem.W.handS_kitx_exc C.hg C.hk C.hs C.hd C.ha C.hn C.ht C.hm) I.kIn J e (fun z => nomatch z) fun tk => ⟨.bl b, H, I.kept (t' := tk) fun _ _ z => z, rfl, q⟩
      obtain ⟨mA, hns, hr⟩ := (show ObjOk X.prog X.w H s.heap dd (.xd fs) from I.hok dd _ hx)
      obtain ⟨od, ho, hl⟩ := lookIn_ns hns
      have J : PySem.W.InstAt s.heap a oe D (some od) := by
        obtain ⟨oc, od', oda, osl⟩ := oe
        obtain ⟨h1, h2⟩ := hz
        dsimp only at h1 h2 hv
        subst h1 h2 hv
        exact ⟨hget, rfl, rfl, ho⟩
      obtain ⟨cd, hc, _⟩ := PySem.W.any_some C.hd
      exact PySem.W.kia_one (PySem.W.kitx_exc (by rw [hc]; rfl) C.hg C.hk C.hs C.ha C.hn C.ht C.hm) I.kIn J e (fun z => nomatch z) fun tk => ⟨.bl b, H, I.kept (t' := tk) fun _ _ z => z, rfl, q⟩
end L2
namespace DL
open PySem PySem.Spec PyProof.Rows L2
section
variable {X : Cx} {M : LK} {W : WX}
def gIsE (K : PySem.W.Frag) (a : Addr) (cls : Value) (d : Option Addr) : GC := fun xs n q => match xs with
  | [.exc a' C dd ns ys, c] => (a' = a ∧ cls = .ref C ∧ d = dd ∧ ExcC K C) ∧ ∃ cv b, clsD c = some cv ∧ PySem.W.kitOne K (.ref C) cv = some b ∧ q (.bl b) n
  | _ => False
theorem drc_isE {a : Addr} {cls : Value} {d : Option Addr} : DRC M (rIsED M.L.K a cls d) (gIsE M.L.K a cls d) := by
  intro pn G n σ δ H vs xs q Q R iv h k
  unfold gIsE at h
  split at h
  · rename_i a' C dd ns ys c
    obtain ⟨v, v', rfl, iw, iw'⟩ := iv.two
    obtain ⟨⟨rfl, rfl, rfl, hC⟩, cv, b, hc, hb, h⟩ := h
    simp only [Is] at iw
    obtain ⟨rfl, fs, h1, _⟩ := iw
    have hx : d = none ∨ ∃ dd fs, d = some dd ∧ H dd = some (.xd fs) := by
      cases d with
      | none => exact .inl rfl
      | some dd => exact .inr ⟨dd, fs, rfl, R.ex _ _ h1⟩
    exact ⟨C, v', cv, b, rfl, rfl, hx, hC, fun u ru => (clsD_ok hc iw').eq ru, hb, k G _ _ n H Adv.refl R (by simp only [Is]) h⟩
  · exact h.elim
end
end DL

set_option Elab.async false
set_option linter.all false
set_option maxRecDepth 100000
set_option maxHeartbeats 2000000
set_option autoImplicit false
/-! told(lambda: e): what the lambda raises is wished for at the slots of the def that calls it. -/
namespace LamX
open PySem PySem.Spec PyProof.Rows L2
section
variable {X : Cx} {pins : List (Addr × Obj)} {σ : L2.St} {H : Hp} {s : Shared}
theorem pe_actS {CXg : CXT} {Eg : XK} {Ng : List Str} {qg : Str} {sg : Scope} {g f c' : Addr} {cdg pm ctv : Value} {params : Arguments} {body : Expr} {scope : Scope} {k i : Nat} {a : Str} {pn : List (Addr × Obj)} {xe : Value → Shared → Prop} {W : WX} {t : XK → TE} {p1 p2 : Pos}
    (I : Inv X pins σ H s) (L : LamS X.env.scope scope) (hf : s.heap.get? f = some (PySem.W.kla_obj "<lambda>" (X.env.qual ++ "<lambda>") params body scope (cloFrom X.env.cells scope.names []) pm c' ctv)) (hfn : H f = none) (hfr : f ∉ frs X.stack)
    (hbind : bindArgs (PySem.W.kla_fn "<lambda>" (X.env.qual ++ "<lambda>") params body scope (cloFrom X.env.cells scope.names []) pm (.ref c') ctv) ⟨[], []⟩ = pure [])
    (tk : Takes ((cxOf CXg X.prog X.w X.K X.mg X.base Ng qg sg g cdg X.A X.stack s H Eg).tr pn xe) W) (hr : Room (k + 1) (X.A.deeper (envOfC qg sg s.heap.objs.size g cdg)))
    (hbody : ∀ (A : Around) (outer : List Env) (s : Shared) (H : Hp) (E : XK), Room k (A.deeper (lamEnv X scope s.heap.objs.size f c')) → PE (lamCx X A outer s H E scope f c') body (t E))
    (hN : Ng[i]? = some a) (hv : Vis sg a) (hd : (a == ("__debug__" : Str)) = false := by decide) (hcd : (a == ("__classdict__" : Str)) = false := by decide) :
    PE ((cxOf CXg X.prog X.w X.K X.mg X.base Ng qg sg g cdg X.A X.stack s H Eg).tr pn xe) (.Call (.Name a p1) [] [] p2)
      (fun σZ HZ Q => σZ[i]? = some (some (.ref f)) ∧ HZ c' = some (CodeO c' (X.env.qual ++ "<lambda>")) ∧ t (WE W σZ) σ HZ Q) := by
  refine ⟨fun pinsZ sZ σZ HZ Q IZ h => ?_⟩
  obtain ⟨hs, hc, ht⟩ := h
  refine wpAny_Call_Name_kw (thn ((pe_var (pos := p1) (i := i) hN hv hd hcd).run pinsZ sZ σZ HZ (fun v H1 => v = .ref f ∧ H1 = HZ) IZ ⟨.ref f, hs, rfl, rfl⟩) fun u s1 ⟨v, H1, I1, r1, q1⟩ => ?_)
  obtain ⟨ev, eH⟩ := q1
  subst ev
  rw [eH] at I1
  obtain rfl : u = Value.ref f := r1
  have of1 : s1.heap.get? f = some (PySem.W.kla_obj "<lambda>" (X.env.qual ++ "<lambda>") params body scope (cloFrom X.env.cells scope.names []) pm c' ctv) := I1.base.keep f _ hf hfn hfr (fun z => nomatch (show f ∈ ([] : List Addr) from z))
  refine PySem.W.callWith_F0 ⟨_, _, _, _, of1⟩ ?_
  have un : Un (frs X.stack) [] H HZ s.heap s1.heap := I1.base
  obtain ⟨⟨oc, vs, tk', hoc, hdc, hvc⟩, _, _⟩ := I1.hok c' _ hc
  have rc : codeAny (model X.prog X.w) (X.A.deeper (envOfC qg sg s.heap.objs.size g cdg)) (.call (.ref f) ⟨[], []⟩) (CR (L2.CX X.prog X.w) (envOfC qg sg s.heap.objs.size g cdg :: X.stack) X.prog X.w HZ s1 Q (WE W σZ)) s1 := by
    refine PySem.W.kla_callFunE hr.depth of1 rfl L.co L.gen rfl ⟨c', oc, vs, tk', rfl, hoc, hdc, hvc⟩ ?_
    rw [hbind]
    refine wpAny_pure (wpAny_newFunctionEnv (fun y hy => (L.own y hy).2) (fun y hy => absurd hy (by simp)) (fun h₁ hns hsb => ⟨I1.nolimit.fresh _ hsb, ?_⟩) L.kind)
    show codeAny _ _ (.expr body (lamEnv X scope s1.heap.objs.size f c')) _ _
    have kp : ∀ b o, s1.heap.get? b = some o → h₁.get? b = some o := fun b o e => hsb.extBut b o (Nat.ne_of_lt (Heap.lt_size e)) (Heap.get?_push_of_some _ e)
    have J : Inv (lamCx X (X.A.deeper (envOfC qg sg s.heap.objs.size g cdg)) (envOfC qg sg s.heap.objs.size g cdg :: X.stack) s1 HZ (WE W σZ) scope f c') [] σ HZ { s1 with heap := h₁, toks := s1.toks + ([] : List (Str × Value)).length } :=
      lam_start2 I L I1.env0 hr.hd un hns kp
    refine PySem.W.kla_codeExpr (wpAny_mono ((hbody _ _ s1 HZ (WE W σZ) (hr.deeper _)).run [] _ _ HZ Q J ht) (fun v s' hq => ?_) fun e s' hq => hq)
    obtain ⟨w', H', J', rv, q⟩ := hq
    exact ⟨w', H', J'.os, J'.bare, J'.base, J'.hok, rv, q⟩
  have hx := passAt tk σZ
  refine wpAny_call (codeAny_mono rc fun r s' hq => ?_)
  cases r with
  | error e => exact hx pinsZ HZ s1 e s' I1 hq
  | ok fl =>
    cases fl with
    | ret u => exact I1.after hq
    | next => exact False.elim hq
    | brk => exact False.elim hq
    | cont => exact False.elim hq
end
def GivesS (X : Cx) (Ng : List Str) (x : Str) (sg : Scope) (g : Addr) (cdg : Value) (bg : List Stmt) (a : Str) (q : Str) (TT : (XK → Hp → VK → Prop) → Hp → VK → Prop) : Prop :=
  ∀ (f c' : Addr) (s : Shared) (H : Hp) (Q : VK) (tl : XK → Hp → VK → Prop),
    (∀ (W : WX) (pn : List (Addr × Obj)) (xe : Value → Shared → Prop) (p1 p2 : Pos), Takes ((cxOf C8.CX0 X.prog X.w X.K X.mg X.base Ng x sg g cdg X.A X.stack s H C8.E0).tr pn xe) W →
      PE ((cxOf C8.CX0 X.prog X.w X.K X.mg X.base Ng x sg g cdg X.A X.stack s H C8.E0).tr pn xe) (.Call (.Name a p1) [] [] p2) (fun σZ HZ Q => σZ[0]? = some (some (.ref f)) ∧ HZ c' = some (CodeO c' q) ∧ tl (WE W σZ) HZ Q)) →
    H c' = some (CodeO c' q) → TT tl H Q →
    ∃ t, PSs (cxOf C8.CX0 X.prog X.w X.K X.mg X.base Ng x sg g cdg X.A X.stack s H C8.E0).nox bg t ∧ t { nx := fun _ H' => Q .non H', rt := Q } (L2.start Ng [.ref f]) H
section
variable {X : Cx}
theorem pe_lamcallS {T : List (Addr × Str)} {TT : (XK → Hp → VK → Prop) → Hp → VK → Prop} {x a : Str} {g c P : Addr} {k : Nat} {pg : Arguments} {bg : List Stmt} {sg : Scope} {dV kV doc pm cdv ct oc : Value} {an od : Option Addr} {osl : Array (Option Value)} {Ng : List Str}
    {params : Arguments} {body : Expr} {scope : Scope} {t : XK → TE} {p lpos pos : Pos} (hg : Gl X x) (hm : X.mg x = some (.ref g)) (hk : PySem.W.keepIn X.K (.ref g) = true)
    (lk : X.K.lookup g = some ⟨oc, od, .func (PySem.W.fnOf x x pg bg sg dV kV doc pm an cdv ct), osl⟩) (hcg : PySem.W.codeIn X.K cdv x = true) (hb : L2.Binds X.K (PySem.W.fnOf x x pg bg sg dV kV doc pm an cdv ct) [a] []) (Sg : FnScope Ng [a] sg) (hNg : Ng[0]? = some a) (hva : Vis sg a)
    (hG : GivesS X Ng x sg g cdv bg a (X.env.qual ++ "<lambda>") TT)
    (TB : TabB X.base X.mg c P) (hcode : X.env.code = .ref c) (hmT : (P, X.env.qual ++ "<lambda>") ∈ T) (hu : ∀ p ∈ T, p.1 = P → p.2 = X.env.qual ++ "<lambda>") (hr : Room (k + 2) X.A) (L : LamS X.env.scope scope) (hdef : defaultsOf params X.env = ([], []))
    (hbind : ∀ (q : Str) (cl : List (Str × Addr)) (pm cv ctv : Value), bindArgs (PySem.W.kla_fn "<lambda>" q params body scope cl pm cv ctv) ⟨[], []⟩ = pure [])
    (hbody : ∀ (A : Around) (outer : List Env) (s : Shared) (H : Hp) (E : XK) (f c' : Addr), Room k (A.deeper (lamEnv X scope s.heap.objs.size f c')) → PE (lamCx X A outer s H E scope f c') body (t E))
    (hdb : (x == ("__debug__" : Str)) = false := by decide) (hd : (a == ("__debug__" : Str)) = false := by decide) (hcd : (a == ("__classdict__" : Str)) = false := by decide) :
    PE X (.Call (.Name x p) [.Lambda params body scope lpos] [] pos) (tLam T TT t) := by
  refine ⟨fun pins s σ H Q I h => ?_⟩
  obtain ⟨hT, h⟩ := h
  refine wpAny_Call_Name_kw (ld_glob I hg hm ?_ hdb)
  refine PySem.W.callWith_K (h₀ := X.base) I.ok.mod.kin hk ?_ (by rfl) (by rfl)
  show wpAny _ _ (spliced ((false, eval (.Lambda params body scope lpos) X.env) :: backTo pos (starEach [] X.env))) _ _ s
  refine Calls.spliced_cons (lam_make2 I TB hcode hmT hu hT hdef (L.has I.ok) fun f c' pm' ctv H1 s' I1 eN T1 hf hfn hfr hco => ?_)
  refine Calls.spliced_nil ⟨I1.kIn, ?_⟩
  have rc : codeAny (model X.prog X.w) X.A (.call (.ref g) ⟨[.ref f], []⟩) (CR C8.CX0 X.stack X.prog X.w H1 s' Q C8.E0) s' := by
    refine run_ofS (N := Ng) (ps := [a]) (us := [.ref f]) (vs := [.ref f]) lk hcg Sg hr I1.env0 (hb s' [.ref f] I1.kIn rfl) (.cons rfl .nil) rfl fun hr' => ?_
    obtain ⟨t', ht', hq'⟩ := hG f c' s' H1 Q (fun E H' Q' => t E σ H' Q') (fun W pn xe p1 p2 tk => pe_actS (i := 0) I1 L hf hfn hfr (hbind _ _ _ _ _) tk hr' (fun A outer s H E hr2 => hbody A outer s H E f c' hr2) hNg hva hd hcd) hco (h H1 eN T1)
    exact ⟨t', ht'.nox, hq'⟩
  refine wpAny_call (codeAny_mono rc fun r s2 hq => ?_)
  cases r with
  | error e => exact (show False from hq).elim
  | ok fl =>
    cases fl with
    | ret u => exact I1.after hq
    | next => exact False.elim hq
    | brk => exact False.elim hq
    | cont => exact False.elim hq
end
end LamX
namespace DL
open PySem PySem.Spec PyProof.Rows L2
/-- a thunk's reading: draws so far, what is wanted of its value, of its exception -/
abbrev DThunk := NS → (D → NS → Prop) → DY → Prop
/-- the promise of a def that calls what it got -/
abbrev DTold := DThunk → NS → (D → NS → Prop) → Prop
def TTd (M : LK) (told : DTold) : (XK → Hp → VK → Prop) → Hp → VK → Prop := fun tl H Q => ∃ (fb : DTE) (pn : Addr) (G : Hp) (n : NS) (σ : L2.St) (δ : DEnv) (qd : D → NS → Prop),
  (∀ (E : XK) (H' : Hp) (Q' : VK), liftE M (fun cls d _ H' => E cls d H') fb σ H' Q' → tl E H' Q') ∧ Rep M pn G n σ δ H ∧ IsE M G σ δ ∧ told (fun n' q' y => fb δ n' q' fun _ => y) n qd ∧
  ∀ G' v d n' H', Adv pn G H G' H' → Rep M pn G' n' [] [] H' → Is M G' v d → qd d n' → Q v H'
/-- a(), a in slot i -/
def dAct (i : Nat) (f c : Addr) (q : Str) (σ : List (Option V)) (δ : DEnv) (fb : DTE) : DTE := fun δZ n qd e => δZ[i]? = some (some (.thk f c q σ δ)) ∧ ∃ (q' : D → NS → Prop) (y' : DY), (fb δ n q' fun _ => y') ∧ (∀ d n', q' d n' → qd d n') ∧ ∀ C ns ds n', y' C ns ds n' → e δZ C ns ds n'
section
variable {X : Cx} {M : LK} {W : WX} {pn : Addr} {G G1 H H1 : Hp} {n : NS}
theorem IsE.len {G : Hp} : ∀ {δ : List (Option D)} {σ : List (Option V)}, IsE M G σ δ → σ.length = δ.length
  | [], [], _ => rfl
  | d :: ds, v :: vs, h => by
    simp only [IsE] at h
    simp only [List.length_cons, IsE.len h.2]
  | [], _ :: _, h => by simp only [IsE] at h
  | _ :: _, [], h => by simp only [IsE] at h
theorem IsE.get {G : Hp} : ∀ {δ : List (Option D)} {σ : List (Option V)} {i : Nat} {d : D}, IsE M G σ δ → δ[i]? = some (some d) → ∃ v, σ[i]? = some (some v) ∧ Is M G v d
  | [], [], i, d, _, e => by simp at e
  | x :: ds, v :: vs, 0, d, h, e => by
    simp only [IsE] at h
    simp at e
    subst e
    cases v with
    | none => simp only [IsO] at h; exact h.1.elim
    | some v => simp only [IsO] at h; exact ⟨v, rfl, h.1⟩
  | x :: ds, v :: vs, i + 1, d, h, e => by
    simp only [IsE] at h
    obtain ⟨u, h1, h2⟩ := IsE.get (i := i) h.2 (by simpa using e)
    exact ⟨u, by simpa using h1, h2⟩
  | [], _ :: _, _, _, h, _ => by simp only [IsE] at h
  | _ :: _, [], _, _, h, _ => by simp only [IsE] at h
theorem IsE.env {σ : L2.St} {δ : DEnv} (h : IsE M G σ δ) : EnvIs M G σ δ where
  len := h.len
  at_ := fun i d e => h.get e
theorem isE_of {G : Hp} : ∀ {δ : DEnv} {σ : L2.St}, σ.length = δ.length → (∀ (i : Nat) (d : D), δ[i]? = some (some d) → ∃ v, σ[i]? = some (some v) ∧ Is M G v d) → IsE M G σ δ
  | [], [], _, _ => by simp only [IsE]
  | d :: δ, v :: σ, hl, h => by
    simp only [IsE]
    refine ⟨?_, isE_of (by simpa using hl) (fun i d e => by simpa using h (i + 1) d (by simpa using e))⟩
    cases d with
    | none => cases v <;> simp only [IsO]
    | some d =>
      obtain ⟨u, h1, h2⟩ := h 0 d rfl
      have e : v = some u := by simpa using h1
      subst e
      simp only [IsO]
      exact h2
  | [], _ :: _, hl, _ => by simp at hl
  | _ :: _, [], hl, _ => by simp at hl
/-- the tables have grown -/
theorem Rep.grow {σ : L2.St} {δ : DEnv} (R : Rep M pn G n σ δ H) (e : LamX.ExtN H H1) (t : LamX.Tabs M.L.T H1) : Rep M pn G n σ δ H1 ∧ Adv pn G H G H1 := by
  refine ⟨⟨fun a o h => e a o (R.ex _ _ h) (R.nt _ _ h), ⟨?_, R.pen.fr⟩, t, R.nt, R.pe, fun a o h => ?_, R.env⟩, ⟨Ext.refl _⟩⟩
  · obtain ⟨la, ns, a, l, h1, h2⟩ := R.pen.ob
    exact ⟨la, ns, a, l, e _ _ h1 notTbl_dK, h2⟩
  · obtain ⟨u, h1, h2, h3⟩ := R.mu a o h
    exact ⟨u, e _ _ h1 h2.nt, h2, h3⟩
/-- an object that never changes becomes known -/
theorem Rep.know {σ : L2.St} {δ : DEnv} {c : Addr} {q : Str} (R : Rep M pn G n σ δ H) (h : H c = some (LamX.CodeO c q)) : ∃ G1, Rep M pn G1 n σ δ H ∧ Adv pn G H G1 H ∧ G1 c = some (LamX.CodeO c q) := by
  obtain ⟨kvs, hk⟩ := R.hp
  cases e : G c with
  | some u =>
    have := R.ex _ _ e
    rw [h] at this
    cases this
    exact ⟨G, R, Adv.refl, e⟩
  | none =>
    have np : pn ≠ c := fun z => by
      rw [z, h] at hk
      unfold LamX.CodeO at hk
      cases hk
    have A : Adv pn G H (upd G c (LamX.CodeO c q)) H := ⟨Ext.new e⟩
    refine ⟨upd G c (LamX.CodeO c q), ⟨fun a u ea => ?_, R.pen.grow np e, R.tab, fun a u ea => ?_, R.pe, fun a u ea => ?_, R.env.up A⟩, A, upd_same⟩
    · by_cases z : a = c
      · subst z; rw [upd_same] at ea; cases ea; exact h
      · rw [upd_ne z] at ea; exact R.ex _ _ ea
    · by_cases z : a = c
      · subst z; rw [upd_same] at ea; cases ea; exact LamX.codeO_ne
      · rw [upd_ne z] at ea; exact R.nt _ _ ea
    · obtain ⟨x, h1, h2, h3, h4⟩ := R.mu a u ea
      have z : a ≠ c := fun z => by
        rw [z, h] at h1
        cases h1
        exact h2.nc _ _ rfl
      exact ⟨x, h1, h2.up A.ge, by rw [upd_ne z]; exact h3, h4⟩
theorem dp_act {e : Expr} {i : Nat} {f c : Addr} {q : Str} {σ : L2.St} {δ : DEnv} {fb : DTE} {tl : XK → Hp → VK → Prop} (h : PE X e (fun σZ HZ Q => σZ[i]? = some (some (.ref f)) ∧ HZ c = some (LamX.CodeO c q) ∧ tl (WE W σZ) HZ Q))
    (htl : ∀ (E : XK) (H' : Hp) (Q' : VK), liftE M (fun cls d _ H' => E cls d H') fb σ H' Q' → tl E H' Q') : PE X e (liftE M W (dAct i f c q σ δ fb)) :=
  PEw h fun σZ HZ Q ⟨pn, G, n, δZ, qd, ex, R, ⟨h1, q', y', h2, hq, hy⟩, hQ, hX⟩ => by
    obtain ⟨v, g1, g2⟩ := R.env.get h1
    simp only [Is] at g2
    obtain ⟨rfl, g2, g3⟩ := g2
    refine ⟨g1, R.ex _ _ g2, htl _ _ _ ⟨pn, G, n, δ, q', fun _ => y', R.env_of g3.env, h2, fun G' v d n' H' A' R' i' h' => hQ G' v d n' H' A' (R.back R'.bare A') i' (hq d n' h'), fun G' C a ns ds n' H' A' R' hx q => ?_⟩⟩
    exact hX G' C a ns ds n' H' A' (R.back R'.bare A') hx (hy C ns ds n' q)
/-- a def that calls what it got, by its body -/
theorem gives_D {Ng : List Str} {x a q : Str} {sg : Scope} {g : Addr} {cdg : Value} {bg : List Stmt} {told : DTold} (tb : Addr → Addr → List (Option V) → DEnv → DTE → DTS) (hN : 1 ≤ Ng.length)
    (hb : ∀ (s : Shared) (H : Hp) (f c : Addr) (σ : List (Option V)) (δ : DEnv) (fb : DTE), (∀ (W : WX) (pn : List (Addr × Obj)) (xe : Value → Shared → Prop) (p1 p2 : Pos), Takes ((cxOf C8.CX0 X.prog X.w X.K X.mg X.base Ng x sg g cdg X.A X.stack s H C8.E0).tr pn xe) W →
      PE ((cxOf C8.CX0 X.prog X.w X.K X.mg X.base Ng x sg g cdg X.A X.stack s H C8.E0).tr pn xe) (.Call (.Name a p1) [] [] p2) (liftE M W (dAct 0 f c q σ δ fb))) →
      PSs (cxOf C8.CX0 X.prog X.w X.K X.mg X.base Ng x sg g cdg X.A X.stack s H C8.E0).nox bg (liftS M W0 (tb f c σ δ fb)))
    (hs : ∀ f c σ δ fb n qd, told (fun n' q' y => fb δ n' q' fun _ => y) n qd → tb f c σ δ fb { nx := fun _ n' => qd .non n', rt := qd } (startD Ng [.thk f c q σ δ]) n) :
    LamX.GivesS X Ng x sg g cdg bg a q (TTd M told) := by
  intro f c s H Q tl act hc h
  obtain ⟨fb, pn, G, n, σ, δ, qd, htl, R, hE, ht, hQ⟩ := h
  obtain ⟨G1, R1, A1, g1⟩ := R.know hc
  refine ⟨_, hb s H f c σ δ fb fun W pn xe p1 p2 tk => dp_act (act W pn xe p1 p2 tk) htl, ?_⟩
  have hi : IsL M G1 [.ref f] [.thk f c q σ δ] := by
    simp only [IsL, Is]
    exact ⟨⟨trivial, g1, IsE.up A1.ge δ σ hE⟩, trivial⟩
  refine ⟨pn, G1, n, _, _, R1.bare.start hi, hs f c σ δ fb n qd ht, ⟨fun G' σ' δ' n' H' A' R' h' => ?_, fun G' σ' δ' v d n' H' A' R' i' h' => ?_, fun G' σ' δ' n' H' A' R' h' => h'.elim, fun G' σ' δ' n' H' A' R' h' => h'.elim, fun G' σ' δ' C a ns ds n' H' A' R' _ h' => h'.elim⟩⟩
  · exact hQ G' .non .non n' H' (R.tr A1 A') R'.bare (by simp only [Is]) h'
  · exact hQ G' v d n' H' (R.tr A1 A') R'.bare i' h'
/-- told(lambda: e) -/
def dLam (told : DTold) (fb : DTE) : DTE := fun δ n q _ => told (fun n' q' y => fb δ n' q' fun _ => y) n q
theorem dp_lam {e : Expr} {told : DTold} {fb : DTE} (h : PE X e (LamX.tLam M.L.T (TTd M told) fun E => liftE M (fun cls d _ H' => E cls d H') fb)) : PE X e (liftE M W (dLam told fb)) :=
  PEw h fun σ H Q ⟨pn, G, n, δ, q, ex, R, h2, hQ, hX⟩ => by
    refine ⟨R.tab, fun H1 eN t1 => ?_⟩
    obtain ⟨R1, A1⟩ := R.grow eN t1
    exact ⟨fb, pn, G, n, σ, δ, q, fun _ _ _ h => h, R1, isE_of R1.env.len R1.env.at_, h2, fun G' v d n' H' A' R' i' h' => hQ G' v d n' H' (R.tr A1 A') (R1.back R' A') i' h'⟩
end
end DL

set_option Elab.async false
set_option linter.all false
set_option maxRecDepth 100000
set_option maxHeartbeats 2000000
set_option autoImplicit false
/-! The pen: a dict of three entries. -/
namespace DL
open PySem PySem.Spec PyProof.Rows L2
structure KeysOk (M : LK) : Prop where
  a : M.ka ≠ "cells"
  l : M.kl ≠ "cells"
  la : M.kl ≠ M.ka
section
variable {X : Cx} {M : LK} {W : WX} {pn : Addr} {G G1 H H1 : Hp} {n : NS} {σ : L2.St} {δ : DEnv}
abbrev penK (M : LK) (la : Addr) (a l : Int) : List (Key × V) := [(.inr "cells", .ref la), (.inr M.ka, .int a), (.inr M.kl, .int l)]
theorem penK_c {la : Addr} {a l : Int} : valV (penK M la a l) (.inr "cells") = some (.ref la) := valV_pos rfl
theorem penK_a (K : KeysOk M) {la : Addr} {a l : Int} : valV (penK M la a l) (.inr M.ka) = some (.int a) := by
  rw [valV_neg (fun z => K.a (Sum.inr.inj z).symm), valV_pos rfl]
theorem penK_l (K : KeysOk M) {la : Addr} {a l : Int} : valV (penK M la a l) (.inr M.kl) = some (.int l) := by
  rw [valV_neg (fun z => K.l (Sum.inr.inj z).symm), valV_neg (fun z => K.la (Sum.inr.inj z).symm), valV_pos rfl]
theorem putK_a (K : KeysOk M) {la : Addr} {a l b : Int} : putK (penK M la a l) (.inr M.ka) (.int b) = penK M la b l := by
  unfold putK
  rw [valV_any, penK_a K]
  have h1 : ¬ ((Sum.inr "cells" : Key) = .inr M.ka) := fun z => K.a (Sum.inr.inj z).symm
  have h2 : ¬ ((Sum.inr M.kl : Key) = .inr M.ka) := fun z => K.la (Sum.inr.inj z)
  simp only [Option.isSome_some, if_true, List.map_cons, List.map_nil, if_neg h1, if_neg h2]
theorem putK_l (K : KeysOk M) {la : Addr} {a l b : Int} : putK (penK M la a l) (.inr M.kl) (.int b) = penK M la a b := by
  unfold putK
  rw [valV_any, penK_l K]
  have h1 : ¬ ((Sum.inr "cells" : Key) = .inr M.kl) := fun z => K.l (Sum.inr.inj z).symm
  have h2 : ¬ ((Sum.inr M.ka : Key) = .inr M.kl) := fun z => K.la (Sum.inr.inj z).symm
  simp only [Option.isSome_some, if_true, List.map_cons, List.map_nil, if_neg h1, if_neg h2]
/-- the pen's numbers are changed -/
theorem Rep.pen_put {la : Addr} {a l a' l' : Int} {m : Nat} (R : Rep M pn G n σ δ H) (h : H pn = some (.dK (penK M la a l))) (ha : 0 ≤ a' ∧ a' ≤ m) (hl : 0 ≤ l') : Rep M pn G ⟨m, n.mu⟩ σ δ (upd H pn (.dK (penK M la a' l'))) ∧ Adv pn G H G (upd H pn (.dK (penK M la a' l'))) := by
  refine ⟨⟨fun b o e => ?_, ⟨?_, R.pen.fr⟩, tabs_upd R.tab h notTbl_dK (fun c q z => by unfold LamX.CodeO at z; cases z), R.nt, R.pe, fun b o e => ?_, R.env⟩, ⟨Ext.refl _⟩⟩
  · have : b ≠ pn := fun z => by rw [z, R.pen.fr] at e; cases e
    rw [upd_ne this]; exact R.ex _ _ e
  · obtain ⟨la2, ns, a2, l2, h1, h2, h3, h4, h5, h6, h7⟩ := R.pen.ob
    have e : la2 = la := by
      have z := h1.symm.trans h
      cases z
      rfl
    subst e
    exact ⟨la2, ns, a', l', upd_same, h2, h3, ha.1, ha.2, hl, h7⟩
  · obtain ⟨x, h1, h2, h3, h4⟩ := R.mu b o e
    exact ⟨x, by rw [upd_ne h4]; exact h1, h2, h3, h4⟩
def dPenC (cs : List Int) (f : DTE) : DTE := fun δ n q e => f δ n (fun x n1 => match x with | .pen => cs.length ≤ 63 → q (.lst (cs.map .int)) n1 | _ => False) e
def dPenA (f : DTE) : DTE := fun δ n q e => f δ n (fun x n1 => match x with | .pen => ∀ a : Int, 0 ≤ a → a ≤ n1.at_ → q (.int a) n1 | _ => False) e
def dPenL (f : DTE) : DTE := fun δ n q e => f δ n (fun x n1 => match x with | .pen => ∀ l : Int, 0 ≤ l → q (.int l) n1 | _ => False) e
theorem IsL.of_ints : ∀ {ns : List Int}, IsL M G (ns.map V.int) (ns.map D.int)
  | [] => by simp only [List.map_nil, IsL]
  | i :: ns => by
    simp only [List.map_cons, IsL, Is]
    exact ⟨trivial, IsL.of_ints⟩
theorem dp_penc {o i : Expr} {pos : Pos} {f : DTE} (hu : X.A.units + 1 < cLine) (ho : PE X o (liftE M W f)) (hi : PE X i (tC (.str "cells"))) (hs : NoSl i) : PE X (.Subscript o i pos) (liftE M W (dPenC M.cs f)) :=
  PEw (pe_dget hu ho hi hs) fun σ H Q ⟨pn, G, n, δ, q, e, R, hf, hQ, hX⟩ => by
    refine ⟨pn, G, n, δ, _, e, R, hf, fun G1 v x n1 H1 A1 R1 i1 h1 => ?_, hX⟩
    cases x with
    | pen =>
      simp only [Is] at i1
      subst i1
      obtain ⟨la, ns, a, l, g1, g2, g3, g4, g5, g6, rfl⟩ := R1.pen.ob
      have e := R1.pe
      subst e
      refine ⟨_, .ref la, rfl, .inl ⟨_, .inr "cells", .inl g1, rfl, penK_c.symm⟩, hQ G1 _ _ n1 H1 A1 R1 ?_ (h1 g3)⟩
      simp only [Is]
      exact ⟨la, _, rfl, g2, IsL.of_ints⟩
    | _ => exact h1.elim
theorem dp_pena {o i : Expr} {pos : Pos} {f : DTE} (K : KeysOk M) (hu : X.A.units + 1 < cLine) (ho : PE X o (liftE M W f)) (hi : PE X i (tC (.str M.ka))) (hs : NoSl i) : PE X (.Subscript o i pos) (liftE M W (dPenA f)) :=
  PEw (pe_dget hu ho hi hs) fun σ H Q ⟨pn, G, n, δ, q, e, R, hf, hQ, hX⟩ => by
    refine ⟨pn, G, n, δ, _, e, R, hf, fun G1 v x n1 H1 A1 R1 i1 h1 => ?_, hX⟩
    cases x with
    | pen =>
      simp only [Is] at i1
      subst i1
      obtain ⟨la, ns, a, l, g1, g2, g3, g4, g5, g6, rfl⟩ := R1.pen.ob
      have e := R1.pe
      subst e
      refine ⟨_, .int a, rfl, .inl ⟨_, .inr M.ka, .inl g1, rfl, (penK_a K).symm⟩, hQ G1 _ _ n1 H1 A1 R1 ?_ (h1 a g4 g5)⟩
      simp only [Is]
    | _ => exact h1.elim
theorem dp_penl {o i : Expr} {pos : Pos} {f : DTE} (K : KeysOk M) (hu : X.A.units + 1 < cLine) (ho : PE X o (liftE M W f)) (hi : PE X i (tC (.str M.kl))) (hs : NoSl i) : PE X (.Subscript o i pos) (liftE M W (dPenL f)) :=
  PEw (pe_dget hu ho hi hs) fun σ H Q ⟨pn, G, n, δ, q, e, R, hf, hQ, hX⟩ => by
    refine ⟨pn, G, n, δ, _, e, R, hf, fun G1 v x n1 H1 A1 R1 i1 h1 => ?_, hX⟩
    cases x with
    | pen =>
      simp only [Is] at i1
      subst i1
      obtain ⟨la, ns, a, l, g1, g2, g3, g4, g5, g6, rfl⟩ := R1.pen.ob
      have e := R1.pe
      subst e
      refine ⟨_, .int l, rfl, .inl ⟨_, .inr M.kl, .inl g1, rfl, (penK_l K).symm⟩, hQ G1 _ _ n1 H1 A1 R1 ?_ (h1 l g6)⟩
      simp only [Is]
    | _ => exact h1.elim
/-- pen[at] = v -/
def dPutA (fv fp : DTE) : DTS := fun k δ n => fv δ n (fun v n1 => fp δ n1 (fun x n2 => match x, v with | .pen, .int a => (0 ≤ a ∧ a ≤ n2.at_ + 1) ∧ k.nx δ ⟨n2.at_ + 1, n2.mu⟩ | _, _ => False) k.ex) k.ex
def dPutL (fv fp : DTE) : DTS := fun k δ n => fv δ n (fun v n1 => fp δ n1 (fun x n2 => match x, v with | .pen, .int l => 0 ≤ l ∧ k.nx δ n2 | _, _ => False) k.ex) k.ex
theorem ds_puta {o i value : Expr} {pos pos' : Pos} {fv fp : DTE} (K : KeysOk M) (hu : X.A.units + 1 < cLine) (ho : PE X o (liftE M W fp)) (hi : PE X i (tC (.str M.ka))) (hv : PE X value (liftE M W fv)) (hs : swapsWith value (some (.Subscript o i pos')) pos.line X.env = pure false := by rfl) :
    PS X (.Assign [.Subscript o i pos'] value pos) (liftS M W (dPutA fv fp)) :=
  PSw (ps_dput hu ho hi hv hs) fun D₀ σ H ⟨pn, G, n, δ, k, R, hf, s⟩ => by
    refine ⟨pn, G, n, δ, _, k.ex, R, hf, fun G1 v x n1 H1 A1 R1 i1 h1 => ?_, s.xe⟩
    refine ⟨pn, G1, n1, δ, _, k.ex, R1, h1, fun G2 u y n2 H2 A2 R2 i2 h2 => ?_, (s.on R A1).xe⟩
    split at h2
    · rename_i a
      simp only [Is] at i1 i2
      subst i1; subst i2
      obtain ⟨la, ns, a0, l, g1, g2, g3, g4, g5, g6, rfl⟩ := R2.pen.ob
      have e := R2.pe
      subst e
      obtain ⟨R3, A3⟩ := R2.pen_put (m := n2.at_ + 1) g1 (a' := a) (by simpa using h2.1) g6
      refine ⟨_, _, rfl, .inl ⟨_, .inr M.ka, g1, rfl, (by show 3 < sizeLine; decide), by rw [putK_a K]⟩, s.nx _ _ _ _ _ (R.tr (R.tr A1 A2) A3) R3 h2.2⟩
    · exact h2.elim
theorem ds_putl {o i value : Expr} {pos pos' : Pos} {fv fp : DTE} (K : KeysOk M) (hu : X.A.units + 1 < cLine) (ho : PE X o (liftE M W fp)) (hi : PE X i (tC (.str M.kl))) (hv : PE X value (liftE M W fv)) (hs : swapsWith value (some (.Subscript o i pos')) pos.line X.env = pure false := by rfl) :
    PS X (.Assign [.Subscript o i pos'] value pos) (liftS M W (dPutL fv fp)) :=
  PSw (ps_dput hu ho hi hv hs) fun D₀ σ H ⟨pn, G, n, δ, k, R, hf, s⟩ => by
    refine ⟨pn, G, n, δ, _, k.ex, R, hf, fun G1 v x n1 H1 A1 R1 i1 h1 => ?_, s.xe⟩
    refine ⟨pn, G1, n1, δ, _, k.ex, R1, h1, fun G2 u y n2 H2 A2 R2 i2 h2 => ?_, (s.on R A1).xe⟩
    split at h2
    · rename_i l'
      simp only [Is] at i1 i2
      subst i1; subst i2
      obtain ⟨la, ns, a0, l, g1, g2, g3, g4, g5, g6, rfl⟩ := R2.pen.ob
      have e := R2.pe
      subst e
      obtain ⟨R3, A3⟩ := R2.pen_put (m := n2.at_) g1 (l' := l') ⟨g4, g5⟩ h2.1
      refine ⟨_, _, rfl, .inl ⟨_, .inr M.kl, g1, rfl, (by show 3 < sizeLine; decide), by rw [putK_l K]⟩, s.nx _ _ _ _ _ (R.tr (R.tr A1 A2) A3) R3 h2.2⟩
    · exact h2.elim
end
end DL

set_option Elab.async false
set_option linter.all false
set_option maxRecDepth 100000
set_option maxHeartbeats 2000000
set_option autoImplicit false
/-! The pen made, the law begun. -/
namespace DL
open PySem PySem.Spec PyProof.Rows L2
abbrev penKV (ka kl : Str) (la : Addr) (a l : Int) : List (Key × V) := [(.inr "cells", .ref la), (.inr ka, .int a), (.inr kl, .int l)]
/-- the pen of a script of at most 63 numbers -/
def spPen (K : PySem.W.Frag) (ka kl : Str) : Sp := fun vs H Q _ => ∃ (a : Addr) (ns : List Int), vs = [.ref a] ∧ SqL K H a (ns.map V.int) ∧ ns.length ≤ 63 ∧
  ∀ p sl la, H p = none → sl ≠ p → H sl = none → la ≠ p → la ≠ sl → H la = none → Q (.ref p) (upd (upd (upd (upd H p (.dK [])) sl (.lst (ns.map V.int))) la (.lst (ns.map V.int))) p (.dK (penKV ka kl la 0 0)))
def tPen (K : PySem.W.Frag) (ka kl : Str) : TS := tRet (tDisp [(tC (.str "cells"), tCB (fun xs H Q => ∃ p ys, xs = [.ref p] ∧ (SqL K H p ys ∨ SqT K H p ys) ∧ ∀ l, H l = none → Q (.ref l) (upd H l (.lst ys))) (tCons (tSl (rSlL K) (tVar 0) tNoPart (tPart (tC (.int 63)))) tNil)), (tC (.str ka), tC (.int 0)), (tC (.str kl), tC (.int 0))])
theorem upd_none {H : Hp} {a p : Addr} {o : HO} (h : H a = none) (hn : a ≠ p) : upd H p o a = none := by rw [upd_ne hn]; exact h
theorem none_upd {H : Hp} {a p : Addr} {o : HO} (h : upd H p o a = none) : a ≠ p ∧ H a = none := by
  by_cases z : a = p
  · rw [z, upd_same] at h; cases h
  · rw [upd_ne z] at h; exact ⟨z, h⟩
theorem merge3 {ka kl : Str} (h1 : ka ≠ "cells") (h2 : kl ≠ "cells") (h3 : kl ≠ ka) (la : Addr) : mergeK [] (penKV ka kl la 0 0) = penKV ka kl la 0 0 := by
  have e1 : ¬ ((Sum.inr "cells" : Key) = .inr ka) := fun z => h1 (Sum.inr.inj z).symm
  have e2 : ¬ ((Sum.inr "cells" : Key) = .inr kl) := fun z => h2 (Sum.inr.inj z).symm
  have e3 : ¬ ((Sum.inr ka : Key) = .inr kl) := fun z => h3 (Sum.inr.inj z).symm
  simp [mergeK, penKV, putK, e1, e2, e3]
theorem pen_pure {K : PySem.W.Frag} {ka kl x : Str} (h1 : ka ≠ "cells") (h2 : kl ≠ "cells") (h3 : kl ≠ ka) (vs : List V) (H : Hp) (Q : VK) (E : XK) (h : spPen K ka kl vs H Q E) : tPen K ka kl { nx := fun _ H' => Q .non H', rt := Q } (L2.start [x] vs) H := by
  obtain ⟨a, ns, rfl, hS, hl, hq⟩ := h
  have hcut : cutV (ns.map V.int) none (some 63) = ns.map V.int := by
    unfold cutV
    have : HT.sIx (ns.map V.int).length (ns.map V.int).length (some 63) = (ns.map V.int).length := by
      have := HT.sIx_nat (ns.map V.int).length (ns.map V.int).length 63
      rw [show ((63 : Nat) : Int) = 63 from rfl] at this
      rw [this, List.length_map]
      omega
    rw [this, HT.sIx_none, List.drop_zero, Nat.sub_zero, List.take_length]
  intro p hp
  refine ⟨.ref a, rfl, 63, rfl, a, ns.map V.int, rfl, Ext.seqL (Ext.new hp) hS, fun sl hsl => ?_⟩
  obtain ⟨n1, hsl'⟩ := none_upd hsl
  rw [hcut]
  refine ⟨sl, ns.map V.int, rfl, .inl (SqL.of upd_same), fun la hla => ?_⟩
  obtain ⟨n2, hla'⟩ := none_upd hla
  obtain ⟨n3, hla''⟩ := none_upd hla'
  refine ⟨by rw [upd_ne (Ne.symm n3), upd_ne (Ne.symm n1), upd_same], penKV ka kl la 0 0, rfl, (by show 3 ≤ 15; decide), ?_⟩
  rw [merge3 h1 h2 h3]
  exact hq p sl la hp n1 hsl' n3 n2 hla''
/-- the law's promise -/
def spLaw (K : PySem.W.Frag) (T : List (Addr × Str)) : Sp := fun vs H Q _ => ∃ (a : Addr) (ns : List Int), vs = [.ref a] ∧ ns.length ≤ 63 ∧ (∀ p ∈ T, H p.1 = some (.tbl #[])) ∧ SqL K H a (ns.map V.int) ∧ ∀ H', Q (.bl true) H'
abbrev MK (K : PySem.W.Frag) (T : List (Addr × Str)) (ka kl : Str) (pn : Addr) (cs : List Int) : LK := ⟨⟨K, T⟩, ka, kl, pn, cs⟩
def tLaw (K : PySem.W.Frag) (T : List (Addr × Str)) (ka kl : Str) (W : WX) (t : List Int → DTS) : TS := fun D σ H => ∃ pn cs, liftS (MK K T ka kl pn cs) W (t cs) D σ H
theorem pss_law {X : Cx} {b : List Stmt} {K : PySem.W.Frag} {T : List (Addr × Str)} {ka kl : Str} {W : WX} {t : List Int → DTS} (h : ∀ pn cs, PSs X b (liftS (MK K T ka kl pn cs) W (t cs))) : PSs X b (tLaw K T ka kl W t) :=
  ⟨fun pins s σ H D I ⟨pn, cs, q⟩ => (h pn cs).run pins s σ H D I q⟩
/-- the state in which the pen has been made -/
theorem Rep.first0 {K : PySem.W.Frag} {T : List (Addr × Str)} {ka kl : Str} {m : Nat} {H : Hp} {a p sl la : Addr} {ns : List Int} {g : Option HO} (hg : ∀ o, g = some o → H a = some o ∧ notTbl o) (hs : SqL K (fun b => if b = a then g else none) a (ns.map V.int)) (hT : ∀ q ∈ T, H q.1 = some (.tbl #[])) (hl : ns.length ≤ 63) (hp : H p = none) (n1 : sl ≠ p) (hsl : H sl = none) (n2 : la ≠ p) (n3 : la ≠ sl) (hla : H la = none) :
    Rep (MK K T ka kl p ns) p (upd (fun b => if b = a then g else none) la (.lst (ns.map V.int))) ⟨0, fun _ => none⟩ (some (.ref a) :: some (.ref p) :: List.replicate m none) (some .scr :: some .pen :: List.replicate m none)
      (upd (upd (upd (upd H p (.dK [])) sl (.lst (ns.map V.int))) la (.lst (ns.map V.int))) p (.dK (penKV ka kl la 0 0))) := by
  have gl : (fun b => if b = a then g else none) la = none := by
    show (if la = a then g else none) = none
    by_cases z : la = a
    · rw [if_pos z]
      cases e : g with
      | none => rfl
      | some o => rw [z, (hg o e).1] at hla; cases hla
    · rw [if_neg z]
  have e0 : Ext (fun b => if b = a then g else none) (upd (fun b => if b = a then g else none) la (.lst (ns.map V.int))) := Ext.new gl
  have ga : ∀ b o, (if b = a then g else none) = some o → H b = some o ∧ notTbl o := fun b o e => by
    by_cases z : b = a
    · rw [if_pos z] at e
      rw [z]
      exact hg o e
    · rw [if_neg z] at e; cases e
  refine ⟨fun b o e => ?_, ⟨⟨la, ns, 0, 0, upd_same, upd_same, hl, by decide, by decide, by decide, rfl⟩, ?_⟩, fun q hq => ?_, fun b o e => ?_, rfl, (fun a o e => by cases e), ⟨by simp, fun i d e => ?_⟩⟩
  · by_cases z : b = la
    · rw [z, upd_same] at e
      rw [z, upd_ne n2, upd_same]
      exact e
    · rw [upd_ne z] at e
      have h0 := (ga b o e).1
      have e1 : b ≠ p := fun z => by rw [z, hp] at h0; cases h0
      have e2 : b ≠ sl := fun z => by rw [z, hsl] at h0; cases h0
      rw [upd_ne e1, upd_ne z, upd_ne e2, upd_ne e1]
      exact h0
  · rw [upd_ne (Ne.symm n2)]
    show (if p = a then g else none) = none
    by_cases z : p = a
    · rw [if_pos z]
      cases e : g with
      | none => rfl
      | some o => rw [z, (hg o e).1] at hp; cases hp
    · rw [if_neg z]
  · have h0 := hT q hq
    have e1 : q.1 ≠ p := fun z => by rw [z, hp] at h0; cases h0
    have e2 : q.1 ≠ sl := fun z => by rw [z, hsl] at h0; cases h0
    have e3 : q.1 ≠ la := fun z => by rw [z, hla] at h0; cases h0
    exact LamX.TabS.nil (by rw [upd_ne e1, upd_ne e3, upd_ne e2, upd_ne e1]; exact h0)
  · by_cases z : b = la
    · rw [z, upd_same] at e; cases e; exact notTbl_lst
    · rw [upd_ne z] at e
      exact (ga b o e).2
  · match i with
    | 0 =>
      simp at e
      subst e
      exact ⟨.ref a, rfl, by simp only [Is]; exact ⟨a, rfl, e0.seqL hs⟩⟩
    | 1 =>
      simp at e
      subst e
      exact ⟨.ref p, rfl, by simp only [Is]⟩
    | i + 2 =>
      simp [List.getElem?_replicate] at e
theorem Rep.first {K : PySem.W.Frag} {T : List (Addr × Str)} {ka kl : Str} {m : Nat} {H : Hp} {a p sl la : Addr} {ns : List Int} (hS : SqL K H a (ns.map V.int)) (hT : ∀ q ∈ T, H q.1 = some (.tbl #[])) (hl : ns.length ≤ 63) (hp : H p = none) (n1 : sl ≠ p) (hsl : H sl = none) (n2 : la ≠ p) (n3 : la ≠ sl) (hla : H la = none) :
    ∃ G, Rep (MK K T ka kl p ns) p G ⟨0, fun _ => none⟩ (some (.ref a) :: some (.ref p) :: List.replicate m none) (some .scr :: some .pen :: List.replicate m none)
      (upd (upd (upd (upd H p (.dK [])) sl (.lst (ns.map V.int))) la (.lst (ns.map V.int))) p (.dK (penKV ka kl la 0 0))) := by
  rcases hS with (h | ⟨o, h⟩) | h
  · exact ⟨_, Rep.first0 (g := some (.lst (ns.map V.int))) (fun o e => by cases e; exact ⟨h, notTbl_lst⟩) (.inl (.inl (if_pos rfl))) hT hl hp n1 hsl n2 n3 hla⟩
  · exact ⟨_, Rep.first0 (g := some (.frz o (.lst (ns.map V.int)))) (fun o e => by cases e; exact ⟨h, fun ps z => by cases z⟩) (.inl (.inr ⟨o, if_pos rfl⟩)) hT hl hp n1 hsl n2 n3 hla⟩
  · exact ⟨_, Rep.first0 (g := none) (fun o e => by cases e) (.inr h) hT hl hp n1 hsl n2 n3 hla⟩
theorem law_pure {K : PySem.W.Frag} {T : List (Addr × Str)} {ka kl : Str} {W : WX} {WS : L2.St → XK} {N : List Str} {m : Nat} {t : List Int → DTS} (hN : N.length = m + 2) (ht : ∀ cs : List Int, cs.length ≤ 63 → t cs { nx := fun _ _ => False, rt := fun d _ => d = .bl true } (some .scr :: some .pen :: List.replicate m none) ⟨0, fun _ => none⟩)
    (vs : List V) (H : Hp) (Q : VK) (E : XK) (h : spLaw K T vs H Q E) : tSeq (tAsg (tCallSD (spPen K ka kl) [] WS (tCons (tVar 0) tNil)) (gName 1)) (tLaw K T ka kl W t) { nx := fun _ H' => Q .non H', rt := Q } (L2.start N vs) H := by
  obtain ⟨a, ns, rfl, hl, hT, hS, hq⟩ := h
  have e0 : L2.start N [.ref a] = some (.ref a) :: none :: List.replicate m none := by
    unfold L2.start
    rw [hN]
    rfl
  rw [e0]
  refine ⟨.ref a, rfl, a, ns, rfl, hS, hl, fun p sl la hp n1 hsl n2 n3 hla => ?_⟩
  obtain ⟨G0, R0⟩ := Rep.first (ka := ka) (kl := kl) (m := m) (a := a) hS hT hl hp n1 hsl n2 n3 hla
  refine ⟨p, ns, p, G0, ⟨0, fun _ => none⟩, _, _, R0, ht ns hl, ⟨fun _ _ _ _ _ _ _ h => h.elim, fun G' σ' δ' v d n' H' A' R' i' h' => ?_, fun _ _ _ _ _ _ _ h => h.elim, fun _ _ _ _ _ _ _ h => h.elim, fun _ _ _ _ _ _ _ _ _ _ _ _ h => h.elim⟩⟩
  subst h'
  simp only [Is] at i'
  subst i'
  exact hq _
end DL

set_option Elab.async false
set_option linter.all false
set_option maxRecDepth 100000
set_option maxHeartbeats 2000000
set_option autoImplicit false
/-! Defs of the module and their calls. -/
namespace DL
open PySem PySem.Spec PyProof.Rows L2
/-- a def of the module as the top has left it -/
structure DefT (K : PySem.W.Frag) (mg : Str → Option Value) (x : Str) (st : Stmt) (ps : List Str) : Prop where
  ex : ∃ f fd, Fun K x x st f fd ∧ mg x = some (.ref f) ∧ PySem.W.keepIn K (.ref f) = true ∧ Binds K fd ps []
/-- .. whose code object stands at c -/
structure DefC (K : PySem.W.Frag) (mg : Str → Option Value) (x : Str) (st : Stmt) (ps : List Str) (c : Addr) : Prop where
  ex : ∃ (f : Addr) (oc : Value) (od an : Option Addr) (osl : Array (Option Value)) (dV kV doc pm ct : Value), K.lookup f = some ⟨oc, od, .func (PySem.W.fnOf x x (defArgs st) (defBody st) (defScope st) dV kV doc pm an (.ref c) ct), osl⟩ ∧ PySem.W.codeIn K (.ref c) x = true ∧
    mg x = some (.ref f) ∧ PySem.W.keepIn K (.ref f) = true ∧ Binds K (PySem.W.fnOf x x (defArgs st) (defBody st) (defScope st) dV kV doc pm an (.ref c) ct) ps []
/-- a def that holds its promise -/
structure CalD (P : Program) (w : World) (K : PySem.W.Frag) (mg : Str → Option Value) (base : Heap) (M : LK) (k : Nat) (x : Str) (ps : List Str) (s : DSp) : Prop where
  ex : ∃ f fd, FnOk P w K mg base (L2.CX P w) k f fd ps (lift M ps.length s) ∧ mg x = some (.ref f) ∧ PySem.W.keepIn K (.ref f) = true ∧ Binds K fd ps []
theorem CalD.of {P : Program} {w : World} {mg : Str → Option Value} {base : Heap} {M : LK} {x : Str} {st : Stmt} {N ps : List Str} {k : Nat} {s : DSp} (D : DefT M.L.K mg x st ps) (S : FnScope N ps (defScope st)) (t : DTS)
    (hb : ∀ (f : Addr) (cdv : Value) (A : Around) (outer : List Env) (s0 : Shared) (H : Hp) (E : XK), Room k (A.deeper (envOfC x (defScope st) s0.heap.objs.size f cdv)) →
      PSs (cxOf (L2.CX P w) P w M.L.K mg base N x (defScope st) f cdv A outer s0 H E) (defBody st) (liftS M (fun cls d _ H' => E cls d H') t))
    (hs : ∀ ds n q e, ds.length = ps.length → s ds n q e → t { nx := fun _ n' => q .non n', rt := q, ex := fun _ => e } (startD N ds) n) : CalD P w M.L.K mg base M (k + 1) x ps s := by
  obtain ⟨f, fd, F, hm, kp, b⟩ := D.ex
  exact ⟨f, fd, dfn F S t (hb f) hs, hm, kp, b⟩
theorem CalD.ofC {P : Program} {w : World} {mg : Str → Option Value} {base : Heap} {M : LK} {x : Str} {st : Stmt} {N ps : List Str} {k : Nat} {s : DSp} {c : Addr} (D : DefC M.L.K mg x st ps c) (S : FnScope N ps (defScope st)) (t : DTS)
    (hb : ∀ (f : Addr) (A : Around) (outer : List Env) (s0 : Shared) (H : Hp) (E : XK), Room k (A.deeper (envOfC x (defScope st) s0.heap.objs.size f (.ref c))) →
      PSs (cxOf (L2.CX P w) P w M.L.K mg base N x (defScope st) f (.ref c) A outer s0 H E) (defBody st) (liftS M (fun cls d _ H' => E cls d H') t))
    (hs : ∀ ds n q e, ds.length = ps.length → s ds n q e → t { nx := fun _ n' => q .non n', rt := q, ex := fun _ => e } (startD N ds) n) : CalD P w M.L.K mg base M (k + 1) x ps s := by
  obtain ⟨f, oc, od, an, osl, dV, kV, doc, pm, ct, lk, hcd, hm, kp, b⟩ := D.ex
  refine ⟨f, _, fn_of lk hcd S (fun vs H Q E h => lift_len h) fun A outer s0 H vs Q E hr h => ⟨_, hb f A outer s0 H E hr, ?_⟩, hm, kp, b⟩
  obtain ⟨pn, G, n, ds, q, e, R, hi, hk, hsp, hQ, hE⟩ := h
  refine ⟨pn, G, n, _, _, R.start hi, hs ds n q e hk hsp, ⟨fun G' σ' δ' n' H' A' R' h' => hQ G' .non .non n' H' A' R'.bare (by simp only [Is]) h', fun G' σ' δ' v d n' H' A' R' i' h' => hQ G' v d n' H' A' R'.bare i' h', fun G' σ' δ' n' H' A' R' h' => h'.elim, fun G' σ' δ' n' H' A' R' h' => h'.elim,
    fun G' σ' δ' C a ns xs n' H' A' R' x' h' => hE G' C a ns xs n' H' A' R'.bare x' h'⟩⟩
/-- a call of a def -/
def dCal (k : Nat) (s : DSp) (f : DTA) : DTE := fun δ n q e => f δ n (fun xs n1 => xs.length = k ∧ s xs n1 q (e δ)) e
section
variable {X : Cx} {M : LK} {W : WX} {x : Str} {p pos : Pos} {e : Expr} {es : List Expr} {f : DTA} {k j : Nat} {ps : List Str} {s : DSp}
theorem lift_cal (σ : L2.St) (H : Hp) (Q : VK) (h : liftE M W (dCal k s f) σ H Q) : tCallSD (lift M k s) [] (fun σ cls d H' => W cls d σ H') (liftA M W f) σ H Q := by
  obtain ⟨pn, G, n, δ, q, e, R, hf, hQ, hX⟩ := h
  refine ⟨pn, G, n, δ, _, e, R, hf, fun G1 vs ds n1 H1 A1 R1 i1 h1 => ?_, hX⟩
  show lift M k s (vs ++ []) H1 Q _
  rw [List.append_nil]
  exact ⟨pn, G1, n1, ds, q, e δ, R1.bare, i1, h1.1, h1.2, fun G2 v d n2 H2 A2 R2 i2 h2 => hQ G2 v d n2 H2 (R.tr A1 A2) (R1.back R2 A2) i2 h2, fun G2 C a ns xs n2 H2 A2 R2 x2 h2 => hX G2 C a ns xs n2 H2 (R.tr A1 A2) (R1.back R2 A2) x2 h2⟩
theorem dp_cal {m : Nat} (c : CalD X.prog X.w X.K X.mg X.base M k x ps s) (hr : Room j X.A) (hkj : k ≤ j) (tk : Takes X W) (hg : Gl X x) (ha : PA X (e :: es) (liftA M W f)) (hm : ps.length = m := by rfl) (hdb : (x == ("__debug__" : Str)) = false := by decide)
    (he : starEach (e :: es) X.env = (false, eval e X.env) :: starEach es X.env := by exact starEach_cons rfl) (hpl : (backTo pos (starEach es X.env)).any (·.1) = false := by rfl) : PE X (.Call (.Name x p) (e :: es) [] pos) (liftE M W (dCal m s f)) := by
  subst hm
  obtain ⟨g, fd, F, hm, kp, b⟩ := c.ex
  exact PEw (pe_callSD (dvs := []) (ds := []) F (hr.mono hkj) hg hm kp b .nil (fun σ => passAt tk σ) ha hdb he hpl) lift_cal
/-- .. without arguments -/
theorem dp_cal0 (c : CalD X.prog X.w X.K X.mg X.base M k x [] s) (hr : Room j X.A) (hkj : k ≤ j) (tk : Takes X W) (hg : Gl X x) (hdb : (x == ("__debug__" : Str)) = false := by decide) : PE X (.Call (.Name x p) [] [] pos) (liftE M W (dCal 0 s dNil)) := by
  obtain ⟨g, fd, F, hm, kp, b⟩ := c.ex
  have h : PE X (.Call (.Name x p) [] [] pos) (tCallSD (lift M 0 s) [] (fun σ cls d H' => W cls d σ H') tNil) := by
    refine ⟨fun pins s σ H Q I h => ?_⟩
    refine wpAny_Call_Name_kw (ld_glob I hg hm ?_ hdb)
    exact PySem.W.callWith_K0 I.kIn kp (run_fnSD (us := []) (vs := []) (dvs := []) F (hr.mono hkj) b .nil (passAt tk σ) I .nil h)
  refine PEw h fun σ H Q hl => ?_
  obtain ⟨pn, G, n, δ, q, ex, R, hf, hQ, hX⟩ := lift_cal σ H Q hl
  exact hQ G [] [] n H Adv.refl R (by simp only [IsL]) hf
/-- a name of the module that stands for a number, a text -/
theorem dp_gi {i : Int} (h : ∃ u, X.mg x = some u ∧ RelV (.int i) u) (hg : Gl X x) (hd : (x == ("__debug__" : Str)) = false := by decide) : PE X (.Name x pos) (liftE M W (dC (.int i))) := dp_c (C8.pe_gc hg h hd) fun _ => by simp only [Is]
theorem dp_gs {l : List Nat} (h : ∃ u, X.mg x = some u ∧ RelV (.str (S l)) u) (hg : Gl X x) (hd : (x == ("__debug__" : Str)) = false := by decide) : PE X (.Name x pos) (liftE M W (dC (.str l))) := dp_c (C8.pe_gc hg h hd) fun _ => by simp only [Is]
end
end DL

set_option Elab.async false
set_option linter.all false
set_option maxRecDepth 100000
set_option maxHeartbeats 2000000
set_option autoImplicit false
/-! An own error of two fields whose __init__ says super().__init__(f, g), above ValueError by way of other own classes: made, raised. -/
namespace PySem
namespace EY
open PySem.EX (ldC call_mw)
open PySem.W PySem.Calls PyProof.Rows PySem.HandSPX
/-! ### the text of __init__ -/
def iA (f g : Str) (p1 p2 p3 : Pos) : Arguments := { posonlyargs := [], args := [{ arg := "self", annotation := none, pos := p1 }, { arg := f, annotation := none, pos := p2 }, { arg := g, annotation := none, pos := p3 }], vararg := none, kwonlyargs := [], kw_defaults := [], kwarg := none, defaults := [] }
def iB (f g : Str) (a1 a2 a3 a4 a7 a5 a6 b1 b2 b3 b4 c1 c2 c3 c4 : Pos) : List Stmt :=
  [.Expr (.Call (.Attribute (.Call (.Name "super" a1) [] [] a2) "__init__" a3) [.Name f a4, .Name g a7] [] a5) a6, .Assign [.Attribute (.Name "self" b1) f b2] (.Name f b3) b4, .Assign [.Attribute (.Name "self" c1) g c2] (.Name g c3) c4]
def iS (f g : Str) : Scope := { kind := .function, names := [(PySem.Str.ofString "self", .local), (f, .local), (g, .local), (PySem.Str.ofString "__class__", .free), (PySem.Str.ofString "super", .globalImplicit)], isGenerator := false, isCoroutine := false, more := [] }
/-- the ways in which two fields may be handed in -/
inductive ArgsOf (f g : Str) (v u : Value) : List Value → Args → Prop where
  | pos {ws : List Value} : ArgsOf f g v u ws ⟨ws ++ [v, u], []⟩
  | mix {ws : List Value} : ArgsOf f g v u ws ⟨ws ++ [v], [(g, u)]⟩
  | kws {ws : List Value} : ArgsOf f g v u ws ⟨ws, [(f, v), (g, u)]⟩
  | rev {ws : List Value} : ArgsOf f g v u ws ⟨ws, [(g, u), (f, v)]⟩
theorem two_len (v u : Value) : [v, u].length ≤ sizeLine := by
  rw [sizeLine_eq]
  exact (by decide : 2 ≤ 16777216)
theorem ArgsOf.size {f g : Str} {v u : Value} {us : List Value} {kw : List (Str × Value)} (h : ArgsOf f g v u [] ⟨us, kw⟩) : us.length ≤ sizeLine := by
  cases h
  · exact two_len v u
  · exact Nat.le_trans (Nat.le_succ _) (two_len v u)
  · exact Nat.zero_le _
  · exact Nat.zero_le _
theorem ArgsOf.self {f g : Str} {v u : Value} {us : List Value} {kw : List (Str × Value)} (h : ArgsOf f g v u [] ⟨us, kw⟩) (x : Value) : ArgsOf f g v u [x] ⟨x :: us, kw⟩ := by
  cases h
  · exact .pos
  · exact .mix
  · exact .kws
  · exact .rev
def Bnd2 (fd : FuncData) (f g : Str) : Prop := (∀ (a b c : Value), bindArgs fd ⟨[a, b, c], []⟩ = pure [(("self" : Str), a), (f, b), (g, c)]) ∧ (∀ (a b c : Value), bindArgs fd ⟨[a, b], [(g, c)]⟩ = pure [(("self" : Str), a), (f, b), (g, c)]) ∧
  (∀ (a b c : Value), bindArgs fd ⟨[a], [(f, b), (g, c)]⟩ = pure [(("self" : Str), a), (f, b), (g, c)]) ∧ (∀ (a b c : Value), bindArgs fd ⟨[a], [(g, c), (f, b)]⟩ = pure [(("self" : Str), a), (f, b), (g, c)])
theorem Bnd2.of {fd : FuncData} {f g : Str} {v u x : Value} {ar : Args} (h : Bnd2 fd f g) (har : ArgsOf f g v u [x] ar) : bindArgs fd ar = pure [(("self" : Str), x), (f, v), (g, u)] := by
  cases har
  · exact h.1 _ _ _
  · exact h.2.1 _ _ _
  · exact h.2.2.1 _ _ _
  · exact h.2.2.2 _ _ _
/-- what the written part says of the class x, at C, of its field f, and of its __init__, at fI -/
structure ErrTxt (P : Program) (K : Frag) (mg : Str → Option Value) (x f g : Str) (C fI : Addr) : Prop where
  gC : mg x = some (.ref C)
  cls : ∃ nm q N bs bm sn sub ab col dd k0 k1 k2 k3 k5, K.lookup C = some (excClassObj nm q C N bs bm true sn sub ab col dd k0 k1 k2 k3 k5 "ValueError.__new__") ∧ refsVE bm = true
  sa : findIn K (.ref C) "__setattr__" = some (some (.builtin "object.__setattr__"))
  ga : findIn K (.ref C) "__getattribute__" = some (some (.builtin "BaseException.__getattribute__"))
  gg : findIn K (.ref C) "__getattr__" = some none
  noN : findIn K (.ref C) f = some none
  noM : findIn K (.ref C) g = some none
  iC : findIn K (.ref C) "__init__" = some (some (.ref fI))
  tC : typeIn K (.ref fI) = some (.type "function")
  kC : keepIn K (.ref C) = true
  exC : subIn K (.ref C) (.type "BaseException") = some true
  veC : subIn K (.ref C) (.type "ValueError") = some true
  tyC : typeIn K (.ref C) = some (.type "type")
  hdC : hasDictIn K C = true
  sup : ks_superIn K C C "__init__" = some (some (.builtin "ValueError.__init__"))
  slf : mroIn K C (.ref C) = some true
  opq : nsIn K cStatics "thirdparty.any" = some none
  gS : mg "super" = none
  htop : (P.main.scope.names.lookup ("super" : Str)).isSome = false
  fself : (f == ("self" : Str)) = false
  fdb : (f == ("__debug__" : Str)) = false
  gself : (g == ("self" : Str)) = false
  gdb : (g == ("__debug__" : Str)) = false
  gf : (g == f) = false
  ks : (iS f g).names.lookup ("super" : Str) = some .globalImplicit
  kc : (iS f g).names.lookup ("__class__" : Str) = some .free
  fn : ∃ (oc : Value) (od : Option Addr) (doc pm : Value) (an : Option Addr) (cda cc : Addr) (ct : Value) (osl : Array (Option Value)) (qual : Str) (p1 p2 p3 a1 a2 a3 a4 a7 a5 a6 b1 b2 b3 b4 c1 c2 c3 c4 : Pos) (ccl : Value) (cdd : Option Addr) (vs : Array Value) (ccs : Array (Option Value)) (file : Str) (tf : Tok)
      (cl : Value) (cld : Option Addr) (csl : Array (Option Value)),
    K.lookup fI = some ⟨oc, od, .func (ksFn "__init__" qual (iA f g p1 p2 p3) (iB f g a1 a2 a3 a4 a7 a5 a6 b1 b2 b3 b4 c1 c2 c3 c4) (iS f g) .none .none doc pm an (.ref cda) ct cc), osl⟩ ∧ codeIn K (.ref cda) qual = true ∧
    K.lookup cda = some ⟨ccl, cdd, .fields vs, ccs⟩ ∧ vs[2]? = some (.str file tf) ∧ ((P.main.file : Str) == file) = true ∧ K.lookup cc = some ⟨cl, cld, .cell (some (.ref C)), csl⟩ ∧
    Bnd2 (ksFn "__init__" qual (iA f g p1 p2 p3) (iB f g a1 a2 a3 a4 a7 a5 a6 b1 b2 b3 b4 c1 c2 c3 c4) (iS f g) .none .none doc pm an (.ref cda) ct cc) f g ∧
    (∀ env : Env, env.scope = iS f g → ∃ pl, eval (.Call (.Attribute (.Call (.Name "super" a1) [] [] a2) "__init__" a3) [.Name f a4, .Name g a7] [] a5) env = (do
      let ov ← attributeBase (.Call (.Name "super" a1) [] [] a2) "__init__" env (eval (.Call (.Name "super" a1) [] [] a2) env)
      standAt a3.atName
      let (gg, first) ← holding [ov] (getMethod ov "__init__" pl)
      callWith a5 gg first (backTo a5 (starEach [.Name f a4, .Name g a7] env)) []))
/-- what __init__ leaves of a fresh exception at x -/
structure InitEnd (h h' : Heap) (x C dx t1 : Addr) (f g : Str) (v u : Value) : Prop where
  keep : ∀ b o, b ≠ x → h.get? b = some o → h'.get? b = some o
  obj : h'.get? x = some { cls := .ref C, dict := some dx, data := .fields #[.ref t1, .none, .none, .none, .bool false, .none] }
  dbig : h.objs.size ≤ dx
  dne : dx ≠ x
  ns : h'.Ns1 dx (fun y => if y = g then some u else if y = f then some v else none)
/-- a made one -/
structure OwnMade (h h' : Heap) (e C d : Addr) (f g : Str) (v u : Value) : Prop where
  keep : ∀ b o, h.get? b = some o → h'.get? b = some o
  new : h.objs.size ≤ e
  obj : ∃ oe vs, h'.get? e = some oe ∧ oe.cls = .ref C ∧ oe.dict = some d ∧ oe.data = .fields vs ∧ vs[1]? = some .none
  dbig : h.objs.size ≤ d
  dne : d ≠ e
  ns : h'.Ns1 d (fun y => if y = g then some u else if y = f then some v else none)
section
variable {prog : Program} {w : World} {A : Around} {E : Value → Shared → Prop} {R : Result → Shared → Prop} {s : Shared} {K : Frag} {mg : Str → Option Value} {f g x : Str} {C fI : Addr} {base : Heap}
theorem two_size (v u : Value) : [v, u].length ≤ sizeLine := by
  rw [sizeLine_eq]
  exact (by decide : 2 ≤ 16777216)
theorem err_init (T : ErrTxt prog K mg x f g C fI) (Md : L2.Mod K mg base) (bk : ∀ b o, base.get? b = some o → s.heap.get? b = some o) {x t0 : Addr} {v u : Value} (X : K.In s.heap) (hlim : s.heap.NoLimit) (hx : s.heap.get? x = some (excO C t0)) (hnx : K.lookup x = none) (hroom : A.depth < recursionLimit)
    {ar : Args} (har : ArgsOf f g v u [.ref x] ar) (hq : ∀ h' tk dx t1, InitEnd s.heap h' x C dx t1 f g v u → R (.ok (.ret .none)) { s with heap := h', toks := tk }) :
    codeAny (model prog w) A (.call (.ref fI) ar) R s := by
  obtain ⟨oc, od, doc, pm, an, cda, cc, ct, osl, qual, p1, p2, p3, a1, a2, a3, a4, a7, a5, a6, b1, b2, b3, b4, c1, c2, c3, c4, ccl, cdd, vs, ccs, file, tf, cl, cld, csl, ho, hcd, hcode, hvs, hfile, hcell, hbnd, hev⟩ := T.fn
  obtain ⟨nm, q, N, bs, bm, sn, sub, ab, col, dd, k0, k1, k2, k3, k5, hC, hbm⟩ := T.cls
  have hcl : clsIn K C = some { name := nm, bases := bs, mro := .ref C :: bm, ns := N, qualname := q, hasDict := true, slotNames := sn, subclasses := sub, abstract := ab, collection := col, hasDel := false } := by unfold clsIn; rw [hC] <;> rfl
  have fs := T.fself
  have sf : (("self" : Str) == f) = false := by
    cases e : (("self" : Str) == f) with
    | false => rfl
    | true =>
      rw [eq_of_beq e] at fs
      simp at fs
  have gs := T.gself
  have sg : (("self" : Str) == g) = false := by
    cases e : (("self" : Str) == g) with
    | false => rfl
    | true =>
      rw [eq_of_beq e] at gs
      simp at gs
  have gf := T.gf
  have fg : (f == g) = false := by
    cases e : (f == g) with
    | false => rfl
    | true =>
      rw [eq_of_beq e] at gf
      simp at gf
  have kself : (iS f g).names.lookup ("self" : Str) = some .local := rfl
  have kf : (iS f g).names.lookup f = some .local := by
    show List.lookup f [(PySem.Str.ofString "self", NameKind.local), (f, NameKind.local), (g, NameKind.local), (PySem.Str.ofString "__class__", NameKind.free), (PySem.Str.ofString "super", NameKind.globalImplicit)] = _
    have : (f == PySem.Str.ofString "self") = false := fs
    simp [List.lookup, this]
  have kg : (iS f g).names.lookup g = some .local := by
    show List.lookup g [(PySem.Str.ofString "self", NameKind.local), (f, NameKind.local), (g, NameKind.local), (PySem.Str.ofString "__class__", NameKind.free), (PySem.Str.ofString "super", NameKind.globalImplicit)] = _
    have : (g == PySem.Str.ofString "self") = false := gs
    simp [List.lookup, this, gf]
  have mself : (([(("self" : Str), .ref x), (f, v), (g, u)] : List (Str × Value)).reverse.lookup ("self" : Str)) = some (.ref x) := by
    simp [List.lookup, sf, sg]
  have mf : (([(("self" : Str), .ref x), (f, v), (g, u)] : List (Str × Value)).reverse.lookup f) = some v := by
    simp [List.lookup, fg]
  have mg' : (([(("self" : Str), .ref x), (f, v), (g, u)] : List (Str × Value)).reverse.lookup g) = some u := by
    simp [List.lookup]
  refine ks_codeAny_call_defAt (fd := ksFn "__init__" qual (iA f g p1 p2 p3) (iB f g a1 a2 a3 a4 a7 a5 a6 b1 b2 b3 b4 c1 c2 c3 c4) (iS f g) .none .none doc pm an (.ref cda) ct cc) (binds := [(("self" : Str), .ref x), (f, v), (g, u)]) hroom (X _ _ ho) rfl hlim (codeRec_of X hcd) rfl (BindsTo.of_eq (hbnd.of har)) ?hcell ?hloc (fun h₁ hns hk₁ => ?_) rfl rfl rfl
  case hcell =>
    intro y hy
    simp only [iS, List.mem_cons, List.not_mem_nil, or_false] at hy
    rcases hy with rfl | rfl | rfl | rfl | rfl <;> exact fun z => nomatch z
  case hloc =>
    intro y hy
    simp only [List.mem_cons, List.not_mem_nil, or_false] at hy
    rcases hy with rfl | rfl | rfl
    · exact kself
    · exact kf
    · exact kg
  have hxL : s.heap.objs.size ≠ x := Nat.ne_of_gt (Heap.lt_size hx)
  have X₁ : K.In h₁ := X.keeps hk₁
  have hx₁ := hk₁ _ _ hx
  have I₁ : InstAt h₁ x (excO C t0) C none := ⟨hx₁, rfl, rfl, trivial⟩
  obtain ⟨mb, hb1, hb2⟩ := Md.blt
  have bk₁ : ∀ b o, base.get? b = some o → h₁.get? b = some o := fun b o e => hk₁ b o (bk b o e)
  obtain ⟨oD, hD1, hD2⟩ : ∃ oD, h₁.get? C = some oD ∧ ∃ cd, oD.data = .cls cd := ⟨_, X₁ _ _ hC, _, rfl⟩
  obtain ⟨cdD, hD2⟩ := hD2
  obtain ⟨pl, hev⟩ := hev (callEnv (ksFn "__init__" qual (iA f g p1 p2 p3) (iB f g a1 a2 a3 a4 a7 a5 a6 b1 b2 b3 b4 c1 c2 c3 c4) (iS f g) .none .none doc pm an (.ref cda) ct cc) s.heap.objs.size fI) rfl
  refine ks_wpAt_execs_cons (ks_wpAt_Expr_any (ks_wpAt_MethodCall (pl := pl) ?_ hev))
  refine ks_wpAt_super_base (fd := ksFn "__init__" qual (iA f g p1 p2 p3) (iB f g a1 a2 a3 a4 a7 a5 a6 b1 b2 b3 b4 c1 c2 c3 c4) (iS f g) .none .none doc pm an (.ref cda) ct cc) T.ks T.kc (by decide) rfl (X₁ _ _ ho) rfl (ar := { arg := "self", annotation := none, pos := p1 }) rfl (cc := cda) rfl (X₁ _ _ hcode) rfl hvs hfile T.htop ?_
  refine ks_loadName_global rfl T.ks (loadGlobal_builtin (Md.glob.keeps bk₁) T.gS (hb1.keeps bk₁) ((hb2 "super" (by decide)).trans (by decide +kernel : bootBuiltins "super" = some (.type "super"))) ⟨rfl, ?_⟩)
  refine wpAny_loadName_free rfl T.kc (c := cc) (v := .ref C) rfl ⟨_, X₁ _ _ hcell, rfl⟩ ?_
  refine wpAny_loadName_local rfl rfl hns mself ?_
  refine ks_wpAny_isType_cls hD1 hD2 ⟨rfl, ?_⟩
  refine ks_wpAny_call_super hD1 hD2 I₁.at_ I₁.cls (fun c e => nomatch e) (looks_mroIn X₁ T.slf) (fun h₂ hso hk₂ => ?_)
  have X₂ : K.In h₂ := X₁.keeps hk₂
  have hx₂ := hk₂ _ _ hx₁
  have I₂ : InstAt h₂ x (excO C t0) C none := ⟨hx₂, rfl, rfl, trivial⟩
  have hI : Looks (model prog w) h₂ (isInstance (.ref x) (.type "ValueError")) true := I₂.type.andThen (looks_subIn X₂ T.veC)
  have hs := T.sup
  unfold ks_superIn at hs
  rw [hcl] at hs
  refine kxs_getMethod kxs_ValueError hso (looks_opaque X₂ T.opq) (l₀ := .ref C :: bm) (fun A Q E s k q => wpAny_bind ((looks_clsIn X₂ hcl) A _ E s k (wpAny_pure q))) rfl X₂ hs hI (ks_ne X₂ I₂ hcl) (by decide) ?_
  have hk₃ : ∀ b o, h₂.get? b = some o → (h₂.push (kxs_mw "ValueError.__init__" x)).get? b = some o := fun b o e => Heap.get?_push_of_some _ e
  have hu : (h₂.push (kxs_mw "ValueError.__init__" x)).get? h₂.objs.size = some (kxs_mw "ValueError.__init__" x) := Heap.get?_push_at rfl rfl
  have hns₃ := (hns.keeps hk₂).keeps hk₃
  refine kxs_callWith (i := "ValueError.__init__") (x := x) rfl (evalArgs_plain (Calls.spliced_cons ?_))
  rw [if_neg (by decide : ¬ (false = true))]
  have k0 : (callEnv (ksFn "__init__" qual (iA f g p1 p2 p3) (iB f g a1 a2 a3 a4 a7 a5 a6 b1 b2 b3 b4 c1 c2 c3 c4) (iS f g) .none .none doc pm an (.ref cda) ct cc) s.heap.objs.size fI).kindOf "self" = some .local := kself
  have k1 : (callEnv (ksFn "__init__" qual (iA f g p1 p2 p3) (iB f g a1 a2 a3 a4 a7 a5 a6 b1 b2 b3 b4 c1 c2 c3 c4) (iS f g) .none .none doc pm an (.ref cda) ct cc) s.heap.objs.size fI).kindOf f = some .local := kf
  have k7 : (callEnv (ksFn "__init__" qual (iA f g p1 p2 p3) (iB f g a1 a2 a3 a4 a7 a5 a6 b1 b2 b3 b4 c1 c2 c3 c4) (iS f g) .none .none doc pm an (.ref cda) ct cc) s.heap.objs.size fI).kindOf g = some .local := kg
  have k2 : (callEnv (ksFn "__init__" qual (iA f g p1 p2 p3) (iB f g a1 a2 a3 a4 a7 a5 a6 b1 b2 b3 b4 c1 c2 c3 c4) (iS f g) .none .none doc pm an (.ref cda) ct cc) s.heap.objs.size fI).scope.kind = .function := rfl
  have m0 : (fun y => ([("self", .ref x), (f, v), (g, u)] : List (Str × Value)).reverse.lookup y) "self" = some (.ref x) := mself
  have m1 : (fun y => ([("self", .ref x), (f, v), (g, u)] : List (Str × Value)).reverse.lookup y) f = some v := mf
  have m7 : (fun y => ([("self", .ref x), (f, v), (g, u)] : List (Str × Value)).reverse.lookup y) g = some u := mg'
  have n3 : (h₂.push (kxs_mw "ValueError.__init__" x)).Ns (callEnv (ksFn "__init__" qual (iA f g p1 p2 p3) (iB f g a1 a2 a3 a4 a7 a5 a6 b1 b2 b3 b4 c1 c2 c3 c4) (iS f g) .none .none doc pm an (.ref cda) ct cc) s.heap.objs.size fI).locals (fun y => ([("self", .ref x), (f, v), (g, u)] : List (Str × Value)).reverse.lookup y) := hns₃
  refine ldC (env := (callEnv (ksFn "__init__" qual (iA f g p1 p2 p3) (iB f g a1 a2 a3 a4 a7 a5 a6 b1 b2 b3 b4 c1 c2 c3 c4) (iS f g) .none .none doc pm an (.ref cda) ct cc) s.heap.objs.size fI)) (m := (fun y => ([("self", .ref x), (f, v), (g, u)] : List (Str × Value)).reverse.lookup y)) (v := v) n3 m1 ?_ k2 k1 T.fdb
  refine Calls.spliced_cons ?_
  rw [if_neg (by decide : ¬ (false = true))]
  refine ldC (env := (callEnv (ksFn "__init__" qual (iA f g p1 p2 p3) (iB f g a1 a2 a3 a4 a7 a5 a6 b1 b2 b3 b4 c1 c2 c3 c4) (iS f g) .none .none doc pm an (.ref cda) ct cc) s.heap.objs.size fI)) (m := (fun y => ([("self", .ref x), (f, v), (g, u)] : List (Str × Value)).reverse.lookup y)) (v := u) n3 m7 ?_ k2 k7 T.gdb
  refine Calls.spliced_nil ⟨hu, ?_⟩
  refine call_mw (K := K) (hk₃ _ _ (X₂ _ _ hC)) (hk₃ _ _ hx₂) hu (two_size v u) (fun h₄ hk₄ hx₄ => ?_)
  have hk14 : ∀ b o, b ≠ x → h₁.get? b = some o → h₄.get? b = some o := fun b o hb e => hk₄ b o hb (hk₃ _ _ (hk₂ _ _ e))
  have X₄ : K.In h₄ := fun a o e => hk14 a o (fun z => by rw [z, hnx] at e; cases e) (X₁ _ _ e)
  have hns₄ : h₄.Ns s.heap.objs.size (fun y => ([("self", .ref x), (f, v), (g, u)] : List (Str × Value)).reverse.lookup y) := by
    obtain ⟨oL, es, ep, hL, r⟩ := hns
    exact ⟨oL, es, ep, hk14 _ _ hxL hL, r⟩
  show wpAt _ _ _ (execs _ _) _ _ _
  refine wpAt_of_wpAny (wpAny_execs_cons (plainObj_wpAny_Assign_Attribute ?_))
  have n4 : h₄.Ns (callEnv (ksFn "__init__" qual (iA f g p1 p2 p3) (iB f g a1 a2 a3 a4 a7 a5 a6 b1 b2 b3 b4 c1 c2 c3 c4) (iS f g) .none .none doc pm an (.ref cda) ct cc) s.heap.objs.size fI).locals (fun y => ([("self", .ref x), (f, v), (g, u)] : List (Str × Value)).reverse.lookup y) := hns₄
  refine ldC (env := (callEnv (ksFn "__init__" qual (iA f g p1 p2 p3) (iB f g a1 a2 a3 a4 a7 a5 a6 b1 b2 b3 b4 c1 c2 c3 c4) (iS f g) .none .none doc pm an (.ref cda) ct cc) s.heap.objs.size fI)) (m := (fun y => ([("self", .ref x), (f, v), (g, u)] : List (Str × Value)).reverse.lookup y)) (v := v) n4 m1 ?_ k2 k1 T.fdb
  refine ldC (env := (callEnv (ksFn "__init__" qual (iA f g p1 p2 p3) (iB f g a1 a2 a3 a4 a7 a5 a6 b1 b2 b3 b4 c1 c2 c3 c4) (iS f g) .none .none doc pm an (.ref cda) ct cc) s.heap.objs.size fI)) (m := (fun y => ([("self", .ref x), (f, v), (g, u)] : List (Str × Value)).reverse.lookup y)) (v := .ref x) n4 m0 ?_ k2 k0 (by decide)
  refine set_plain X₄ (ox := _) (od := none) ⟨hx₄, rfl, rfl, trivial⟩ T.sa ?_
  refine exc_osa X₄ hx₄ hcl (show refsVE (.ref C :: bm) = true from hbm) rfl T.noN (fun h₅ tk₅ dx k₅ dn dne hx₅ hn₅ => ?_)
  have z : s.heap.objs.size ≤ h₄.objs.size := by
    obtain ⟨oL, es, ep, hL, r⟩ := hns₄
    exact Nat.le_of_lt (Heap.lt_size hL)
  have X₅ : K.In h₅ := fun a o e => k₅ a o (fun z => by rw [z, hnx] at e; cases e) (X₄ _ _ e)
  have hns₅ : h₅.Ns s.heap.objs.size (fun y => ([("self", .ref x), (f, v), (g, u)] : List (Str × Value)).reverse.lookup y) := by
    obtain ⟨oL, es, ep, hL, r⟩ := hns₄
    exact ⟨oL, es, ep, k₅ _ _ hxL hL, r⟩
  have wi : Within (fun y => if y = f then some v else (none : Option Value)) [f] := fun y hy => by
    by_cases q : y = f
    · rw [q]; exact List.mem_cons_self
    · simp [q] at hy
  obtain ⟨oD5, esD5, epD5, hoD5, hdD5, _⟩ := hn₅.count wi
  have nd : ∀ b o, s.heap.get? b = some o → b ≠ dx := fun b o e q => by
    have z1 : s.heap.objs.size ≤ dx := Nat.le_trans z dn
    exact absurd (Heap.lt_size e) (by rw [q]; exact Nat.not_lt.mpr z1)
  show wpAny _ _ (execs _ _) _ _ _
  refine wpAny_execs_cons (plainObj_wpAny_Assign_Attribute ?_)
  have n5 : h₅.Ns (callEnv (ksFn "__init__" qual (iA f g p1 p2 p3) (iB f g a1 a2 a3 a4 a7 a5 a6 b1 b2 b3 b4 c1 c2 c3 c4) (iS f g) .none .none doc pm an (.ref cda) ct cc) s.heap.objs.size fI).locals (fun y => ([("self", .ref x), (f, v), (g, u)] : List (Str × Value)).reverse.lookup y) := hns₅
  refine ldC (env := (callEnv (ksFn "__init__" qual (iA f g p1 p2 p3) (iB f g a1 a2 a3 a4 a7 a5 a6 b1 b2 b3 b4 c1 c2 c3 c4) (iS f g) .none .none doc pm an (.ref cda) ct cc) s.heap.objs.size fI)) (m := (fun y => ([("self", .ref x), (f, v), (g, u)] : List (Str × Value)).reverse.lookup y)) (v := u) n5 m7 ?_ k2 k7 T.gdb
  refine ldC (env := (callEnv (ksFn "__init__" qual (iA f g p1 p2 p3) (iB f g a1 a2 a3 a4 a7 a5 a6 b1 b2 b3 b4 c1 c2 c3 c4) (iS f g) .none .none doc pm an (.ref cda) ct cc) s.heap.objs.size fI)) (m := (fun y => ([("self", .ref x), (f, v), (g, u)] : List (Str × Value)).reverse.lookup y)) (v := .ref x) n5 m0 ?_ k2 k0 (by decide)
  refine set_plain X₅ (ox := _) (od := some oD5) ⟨hx₅, rfl, rfl, hoD5⟩ T.sa ?_
  refine PySem.OEX.osa_old X₅ hx₅ hn₅ wi (by simp) hcl (show refsVE (.ref C :: bm) = true from hbm) rfl T.noM (fun h₆ tk₆ k₆ hn₆ => ?_)
  show wpAny _ _ (execs _ _) _ _ _
  exact wpAny_execs_nil (hq h₆ tk₆ dx _ ⟨fun b o hb e => k₆ b o (nd b o e) (k₅ b o hb (hk14 b o hb (hk₁ b o e))), k₆ _ _ (Ne.symm dne) hx₅, Nat.le_trans z dn, dne, hn₆⟩)
theorem err_made (T : ErrTxt prog K mg x f g C fI) (Md : L2.Mod K mg base) (bk : ∀ b o, base.get? b = some o → s.heap.get? b = some o) {v u : Value} (X : K.In s.heap) (hlim : s.heap.NoLimit) (hroom : A.depth + 1 < recursionLimit)
    {us : List Value} {kw : List (Str × Value)} (har : ArgsOf f g v u [] ⟨us, kw⟩) (hq : ∀ h' tk e d, OwnMade s.heap h' e C d f g v u → R (.ok (.ret (.ref e))) { s with heap := h', toks := tk }) :
    codeAny (model prog w) A (.call (.ref C) ⟨us, kw⟩) R s := by
  obtain ⟨nm, q, N, bs, bm, sn, sub, ab, col, dd, k0, k1, k2, k3, k5, hC, hbm⟩ := T.cls
  obtain ⟨hp, gg, dr, tk, os⟩ := s
  have k : ∀ b o, hp.get? b = some o → ((hp.push (kdv_tup us)).push (excO C hp.objs.size)).get? b = some o := fun b o e => Heap.get?_push_of_some _ (Heap.get?_push_of_some _ e)
  have hget : ((hp.push (kdv_tup us)).push (excO C hp.objs.size)).get? (hp.objs.size + 1) = some (excO C hp.objs.size) := by heap_get
  have hnx : K.lookup (hp.objs.size + 1) = none := by
    cases e : K.lookup (hp.objs.size + 1) with
    | none => rfl
    | some o =>
      have z : hp.get? (hp.objs.size + 1) = some o := X _ _ e
      exact absurd (Nat.lt_of_succ_lt (Heap.lt_size z)) (Nat.lt_irrefl _)
  refine EK.call_kw F.excBase_ValueError (fun X => refsVE_contains X bm hbm) (X _ _ hC) (looks_findIn X T.iC) (fun self => bind_fn X self T.tC) har.size ?_
  refine err_init (s := ⟨(hp.push (kdv_tup us)).push (excO C hp.objs.size), gg, dr, tk, os⟩) T Md (fun b o e => k b o (bk b o e)) (X.keeps k) (hlim.keeps k) hget hnx ?_ (har.self _) fun h' tk' dx t1 ⟨k', hx, dn, dne, hns⟩ => ?_
  · show A.depth + 1 < recursionLimit
    exact hroom
  · have old : ∀ b o, hp.get? b = some o → h'.get? b = some o := fun b o e => k' b o (Nat.ne_of_lt (Nat.lt_succ_of_lt (Heap.lt_size e))) (k b o e)
    have z : hp.objs.size + 1 + 1 ≤ dx := by
      first
        | (simpa only [Heap.size_push] using dn)
        | exact dn
        | (have q := dn; rw [Heap.size_push, Heap.size_push] at q; exact q)
    exact ⟨rfl, hq h' tk' (hp.objs.size + 1) dx ⟨old, Nat.le_succ _, ⟨_, _, hx, rfl, rfl, rfl, rfl⟩, Nat.le_trans (Nat.le_trans (Nat.le_succ _) (Nat.le_succ _)) z, dne, hns⟩⟩
end
end EY
end PySem
namespace L2
open PySem PySem.Spec PyProof.Rows
theorem relO_err2 {f g : Str} {v u : V} {v' u' : Value} (r : RelV v v') (r2 : RelV u u') (hgf : (g == f) = false) (y : Str) : RelO (List.lookup y [(f, v), (g, u)]) (if y = g then some u' else if y = f then some v' else none) := by
  by_cases h1 : y = g
  · subst h1
    rw [if_pos rfl, show List.lookup y [(f, v), (y, u)] = some u by simp [List.lookup, hgf]]
    exact r2
  · rw [if_neg h1]
    by_cases h2 : y = f
    · subst h2
      rw [if_pos rfl, show List.lookup y [(y, v), (g, u)] = some v by simp [List.lookup]]
      exact r
    · have q1 : (y == g) = false := by simpa using h1
      have q2 : (y == f) = false := by simpa using h2
      rw [if_neg h2, show List.lookup y [(f, v), (g, u)] = none by simp [List.lookup, q1, q2]]
      trivial
section
variable {X : Cx} {C fI : Addr} {x f g : Str}
/-- x(e) -/
def tMkErr2 (f g : Str) (C : Addr) (ta : TA) : St → Hp → XK → Prop := fun σ H Q => ta σ H fun vs H1 => ∃ v u, vs = [v, u] ∧ ∀ d, H1 d = none → Q (.ref C) (some d) (upd H1 d (.xd [(f, v), (g, u)]))
theorem pmk_err2 {a b : Expr} {ta : TA} {p pos : Pos} {k : Nat} (T : PySem.EY.ErrTxt X.prog X.K X.mg x f g C fI) (hr : Room k X.A) (ha : PA X [a, b] ta) (hg : Gl X x) (hdb : (x == ("__debug__" : Str)) = false)
    (he : starEach (a :: [b]) X.env = (false, eval a X.env) :: starEach [b] X.env := by exact DL.starEach_cons rfl) (hpl : (backTo pos (starEach [b] X.env)).any (·.1) = false := by rfl) :
    PMk X (.Call (.Name x p) [a, b] [] pos) (tMkErr2 f g C ta) := by
  intro pins s σ H Q I h
  refine wpAny_Call_Name_kw (ld_glob I hg T.gC ?_ hdb)
  refine PySem.W.callWith_K (h₀ := X.base) I.ok.mod.kin T.kC (thn (ha.run pos pins s σ H _ I h) fun us s1 hh => ?_) he hpl
  obtain ⟨vs, H1, I1, r1, v, u, ev, q1⟩ := hh
  subst ev
  refine ⟨I1.kIn, ?_⟩
  cases r1 with
  | cons rv rn =>
    rename_i v' us'
    cases rn with
    | cons ru rn =>
    rename_i u' us'
    cases rn
    show wpAny _ _ (call (.ref C) [v', u']) _ _ _
    have hlim := I1.nolimit
    have bk1 := I1.bk
    obtain ⟨hp, gs, dr, tk, os⟩ := s1
    refine wpAny_call (PySem.EY.err_made T I1.ok.mod bk1 I1.kIn hlim (by have := hr.dp; omega) .pos fun h' tk' e d M => ?_)
    show MkP X pins σ Q (.ref e) ⟨h', gs, dr, tk', os⟩
    obtain ⟨oe, fv, hoe, hc, hd, hdat, h1⟩ := M.obj
    have hns := M.ns
    obtain ⟨G', g1, g2⟩ := restrict h' fun b => decide (b ≠ e)
    have gk : ∀ b, b ≠ e → G'.get? b = h'.get? b := fun b hb => g1 b (decide_eq_true hb)
    have ge : G'.get? e = none := g2 e (by simp)
    have old : ∀ b o, hp.get? b = some o → G'.get? b = some o := fun b o q => (gk b (Nat.ne_of_lt (Nat.lt_of_lt_of_le (Heap.lt_size q) M.new))).trans (M.keep b o q)
    have ob : ObjOk X.prog X.w (upd H1 d (.xd [(f, v), (g, u)])) G' d (.xd [(f, v), (g, u)]) :=
      ⟨_, hns.at (fun o q => (gk d M.dne).trans q), fun y => relO_err2 rv ru T.gf y⟩
    have J : Inv X pins σ (upd H1 d (.xd [(f, v), (g, u)])) ⟨G', gs, dr, tk', os⟩ := I1.laid (t' := tk') old M.dbig ob
    refine ⟨e, oe, fv, ⟨G', gs, dr, tk', os⟩, _, .ref C, some d, rfl, J, fun b o q => ?_, ge, hoe, ⟨hc, hd⟩, hdat, h1, ?_, rfl, I1.bare, raises_own T.exC T.tyC, q1 d (I1.hok.fresh M.dbig)⟩
    · by_cases hb : b = e
      · have q' : G'.get? b = some o := q
        rw [hb, ge] at q'; cases q'
      · exact (gk b hb).symm.trans q
    · rw [upd_ne (Ne.symm M.dne)]
      exact I1.hok.fresh M.new
/-- raise x(e) -/
def tRaiseErr2 (f g : Str) (C : Addr) (W : WX) (ta : TA) : TS := fun _ σ H => tMkErr2 f g C ta σ H fun cls d H' => W cls d σ H'
theorem ps_raiseErr2 {a b : Expr} {ta : TA} {W : WX} {p pos pos2 : Pos} {k : Nat} (hc : X.calm = true) (T : PySem.EY.ErrTxt X.prog X.K X.mg x f g C fI) (hr : Room k X.A) (tk : Takes X W) (ha : PA X [a, b] ta) (hg : Gl X x) (hdb : (x == ("__debug__" : Str)) = false)
    (he : starEach (a :: [b]) X.env = (false, eval a X.env) :: starEach [b] X.env := by exact DL.starEach_cons rfl) (hpl : (backTo pos (starEach [b] X.env)).any (·.1) = false := by rfl) :
    PS X (.Raise (some (.Call (.Name x p) [a, b] [] pos)) none pos2) (tRaiseErr2 f g C W ta) := ps_raise hc tk (pmk_err2 T hr ha hg hdb he hpl)
end
end L2
namespace DL
open PySem PySem.Spec PyProof.Rows L2
section
variable {X : Cx} {M : LK} {W : WX} {C fI : Addr} {x f g : Str}
/-- raise x(e, e'), x an own error of two fields -/
def dRaise2 (C : Addr) (f g : Str) (fa : DTA) : DTS := fun k δ n => fa δ n (fun xs n1 => xs.length = 2 ∧ k.ex δ C [f, g] xs n1) k.ex
theorem ds_raise2 {st : Stmt} {fa : DTA} (h : PS X st (tRaiseErr2 f g C W (liftA M W fa))) : PS X st (liftS M W (dRaise2 C f g fa)) :=
  PSw h fun D₀ σ H ⟨pn, G, n, δ, k, R, hf, s⟩ => by
    refine ⟨pn, G, n, δ, _, k.ex, R, hf, fun G1 vs ds n1 H1 A1 R1 i1 h1 => ?_, s.xe⟩
    obtain ⟨hl, h1⟩ := h1
    match ds, hl with
    | [d, d2], _ =>
      obtain ⟨v, u, rfl, iv, iu⟩ := i1.two
      refine ⟨v, u, rfl, fun a ha => ?_⟩
      obtain ⟨R2, A2⟩ := R1.lay (o := .xd [(f, v), (g, u)]) ha notTbl_xd
      exact s.ex _ σ δ C (some a) [f, g] [d, d2] n1 _ (R.tr A1 A2) R2 ⟨[(f, v), (g, u)], upd_same, rfl, by simp only [List.map, IsL]; exact ⟨Is.up A2.ge d v iv, Is.up A2.ge d2 u iu, trivial⟩⟩ h1
end
end DL

set_option Elab.async false
set_option linter.all false
set_option maxRecDepth 100000
set_option maxHeartbeats 4000000
set_option autoImplicit false
/-! Own classes: made, read, compared; what is raised is wished for at the caller's slots. -/
namespace OB
open PySem PySem.Spec PyProof.Rows L2
def noE : XK := fun _ _ _ => False
section
variable {X : Cx} {k n : Nat} {f C : Addr} {fd : FuncData} {ps ks : List Str} {sp : Sp} {E : XK} {pins : List (Addr × Obj)} {σ : L2.St} {H : Hp} {s : Shared}
theorem passNo : PassesAt (L2.CX X.prog X.w) X σ noE := fun pins H s e s' I c => by
  obtain ⟨_, _, _, _, _, _, _, _, _, _, _, _, h⟩ := c
  exact h.elim
/-- the def at f runs somewhere below -/
theorem below {A : Around} {Q : VK} {us : List Value} {vs : List V} (F : FnOk X.prog X.w X.K X.mg X.base (L2.CX X.prog X.w) k f fd ps sp) (b : Binds X.K fd ps []) (hr : Room k A) (hf : A.frames = X.A.frames) (hx : PassesAt (L2.CX X.prog X.w) X σ E) (I : Inv X pins σ H s) (r : Vals vs us)
    (h : sp vs H Q E) : wpAny (model X.prog X.w) A (call (.ref f) us) (EP X pins σ Q) X.xe s := by
  have l := F.len _ _ _ _ h
  have e1 := I.env0
  have e0 : Env0 X.prog X.w X.K X.mg X.base A X.stack s H := ⟨hf.trans e1.frames, e1.mod, e1.bs, e1.bsz, e1.funs, e1.frf, e1.hok, e1.bare⟩
  have bt : BindsTo s fd ⟨us, []⟩ (ps.zip us) := by
    have z := b s us I.kIn (by rw [List.append_nil, ← r.length]; exact l)
    rw [List.append_nil] at z
    exact z
  refine wpAny_call (codeAny_mono (F.run A X.stack s H ⟨us, []⟩ us vs Q E hr e0 bt r h) fun t s' q => ?_)
  match t, q with
  | .error e, q => exact hx pins H s e s' I q
  | .ok (.ret u), q => exact I.after q
  | .ok .next, q => exact q.elim
  | .ok .brk, q => exact q.elim
  | .ok .cont, q => exact q.elim
/-- an instance is made, its __init__ runs -/
theorem made {Q : VK} {us ws : List Value} {vs zs : List V} {g : List Value → List Value → List Value} {gV : List V → List V → List V} (M : Mk X.K C f) (F : FnOk X.prog X.w X.K X.mg X.base (L2.CX X.prog X.w) k f fd ps sp) (hr : Room (k + 1) X.A) (b : KBn X.K fd ps (n + 1) ks g gV) (hx : PassesAt (L2.CX X.prog X.w) X σ E)
    (I : Inv X pins σ H s) (r : Vals vs us) (rz : Vals zs ws) (l1 : vs.length = n) (l2 : zs.length = ks.length)
    (h : ∀ x dx, H x = none → H dx = none → dx ≠ x → sp (gV (.ref x :: vs) zs) (upd (upd H dx (.own x)) x (.ins C dx [])) (fun v H2 => v = .non ∧ Q (.ref x) H2) E) :
    wpAny (model X.prog X.w) X.A (call (.ref C) us (ks.zip ws)) (EP X pins σ Q) X.xe s := by
  have I2 := Inv.made (C := C) I
  have rx : Vals (V.ref (s.heap.objs.size + 1) :: vs) (Value.ref (s.heap.objs.size + 1) :: us) := .cons rfl r
  have hq := h _ _ (I.hok.fresh (Nat.le_succ s.heap.objs.size)) (I.hok.fresh (Nat.le_refl s.heap.objs.size)) (Nat.ne_of_lt (Nat.lt_succ_self _))
  have nx : (Value.ref (s.heap.objs.size + 1) :: us).length = n + 1 := by simp only [List.length_cons, ← r.length, l1]
  have run := F.run _ X.stack _ _ ⟨_ :: us, ks.zip ws⟩ _ _ _ E (hr.make C us (ks.zip ws)) (I2.env0.make C us (ks.zip ws)) (b.to _ _ ws I2.kIn nx (rz.length.symm.trans l2)) (b.rel rx rz) hq
  refine wpAny_call (make_map (f := f) I.kIn M.makes M.init (beq_iff_eq.mp M.fn) (codeAny_mono run fun t s' q => ?_))
  match t, q with
  | .error e, q => exact hx pins _ _ e s' I2 q
  | .ok (.ret u), q =>
    obtain ⟨v, H', I3, rv, ev, q3⟩ := I2.after q
    subst ev
    exact ⟨rv, ⟨.ref (s.heap.objs.size + 1), H', I3, rfl, q3⟩⟩
  | .ok .next, q => exact q.elim
  | .ok .brk, q => exact q.elim
  | .ok .cont, q => exact q.elim
end
section
variable {X : Cx} {k n : Nat} {f C : Addr} {fd : FuncData} {ps ks : List Str} {sp : Sp} {E : L2.St → XK} {x m : Str} {p pos apos : Pos} {e o : Expr} {es : List Expr} {kws : List Keyword} {t tk : TA} {ta : TE} {g : List Value → List Value → List Value} {gV : List V → List V → List V}
/-- C(e, .., k = v, ..): a new instance and its dict, then __init__ -/
def tNew (C : Addr) (n m : Nat) (sp : Sp) (gV : List V → List V → List V) (E : L2.St → XK) (t tk : TA) : TE := fun σ H Q => t σ H fun vs H1 => tk σ H1 fun zs H2 => vs.length = n ∧ zs.length = m ∧
  ∀ x dx, H2 x = none → H2 dx = none → dx ≠ x → sp (gV (.ref x :: vs) zs) (upd (upd H2 dx (.own x)) x (.ins C dx [])) (fun v H3 => v = .non ∧ Q (.ref x) H3) (E σ)
theorem pe_newK (M : Mk X.K C f) (F : FnOk X.prog X.w X.K X.mg X.base (L2.CX X.prog X.w) k f fd ps sp) (hr : Room (k + 1) X.A) (hg : Gl X x) (hm : X.mg x = some (.ref C)) (b : KBn X.K fd ps (n + 1) ks g gV) (hx : ∀ σ, PassesAt (L2.CX X.prog X.w) X σ (E σ)) (ha : PA X (e :: es) t) (hkw : PK X kws tk)
    (hall : (backToKw pos (keywordEach kws X.env)).all (·.1.isSome) = true := by rfl) (hks : (backToKw pos (keywordEach kws X.env)).filterMap (·.1) = ks := by rfl) (hdb : (x == ("__debug__" : Str)) = false := by decide)
    (he : starEach (e :: es) X.env = (false, eval e X.env) :: starEach es X.env := by rfl) (hpl : ((backTo pos (starEach (e :: es) X.env)).any (·.1) || (backToKw pos (keywordEach kws X.env)).any (·.1.isNone)) = false := by rfl) :
    PE X (.Call (.Name x p) (e :: es) kws pos) (tNew C n ks.length sp gV E t tk) := by
  constructor
  intro pins s σ H Q I h
  refine wpAny_Call_Name_kw (ld_glob I hg hm (PySem.W.callWith_KW (h₀ := X.base) I.ok.mod.kin M.kp hall (thn (ha.run pos pins s σ H _ I h) fun us s1 ⟨vs, H1, I1, r, q⟩ => ?_) hpl he) hdb)
  refine thn (hkw.run pos pins s1 σ H1 _ I1 q) fun ws s2 ⟨zs, H2, I2, rz, l1, l2, q2⟩ => ⟨I2.kIn, ?_⟩
  rw [hks]
  exact made M F hr b (hx σ) I2 r rz l1 l2 q2
/-- .. without keywords -/
theorem pe_newP (M : Mk X.K C f) (F : FnOk X.prog X.w X.K X.mg X.base (L2.CX X.prog X.w) k f fd ps sp) (hr : Room (k + 1) X.A) (hg : Gl X x) (hm : X.mg x = some (.ref C)) (b : KBn X.K fd ps (n + 1) [] g gV) (hx : ∀ σ, PassesAt (L2.CX X.prog X.w) X σ (E σ)) (ha : PA X (e :: es) t)
    (hdb : (x == ("__debug__" : Str)) = false := by decide) (he : starEach (e :: es) X.env = (false, eval e X.env) :: starEach es X.env := by rfl) (hpl : (backTo pos (starEach es X.env)).any (·.1) = false := by rfl) :
    PE X (.Call (.Name x p) (e :: es) [] pos) (tNew C n 0 sp gV E t tNil) := by
  constructor
  intro pins s σ H Q I h
  refine wpAny_Call_Name_kw (ld_glob I hg hm (PySem.W.callWith_K (h₀ := X.base) I.ok.mod.kin M.kp (thn (ha.run pos pins s σ H _ I h) fun us s1 ⟨vs, H1, I1, r, q⟩ => ⟨I1.kIn, ?_⟩) he hpl) hdb)
  exact made (ws := []) M F hr b (hx σ) I1 r .nil q.1 rfl q.2.2
/-- C() -/
theorem pe_new0 (M : Mk X.K C f) (F : FnOk X.prog X.w X.K X.mg X.base (L2.CX X.prog X.w) k f fd ps sp) (hr : Room (k + 1) X.A) (hg : Gl X x) (hm : X.mg x = some (.ref C)) (b : KBn X.K fd ps 1 [] g gV) (hx : ∀ σ, PassesAt (L2.CX X.prog X.w) X σ (E σ))
    (hdb : (x == ("__debug__" : Str)) = false := by decide) : PE X (.Call (.Name x p) [] [] pos) (tNew C 0 0 sp gV E tNil tNil) := by
  constructor
  intro pins s σ H Q I h
  exact wpAny_Call_Name_kw (ld_glob I hg hm (PySem.W.callWith_K0 I.kIn M.kp (made (us := []) (ws := []) M F hr b (hx σ) I .nil .nil h.1 rfl h.2.2)) hdb)
/-- o.m(e, ..) -/
def tMet (C : Addr) (m : Str) (sp : Sp) (E : L2.St → XK) (ta : TE) (t : TA) : TE := fun σ H Q => ta σ H fun x H1 => ∃ a dx fs, x = .ref a ∧ H1 a = some (.ins C dx fs) ∧ fs.lookup m = none ∧ t σ H1 fun vs H2 => sp (x :: vs) H2 Q (E σ)
theorem pe_met {pl : Sem Bool} (he : PE X o ta) (c : Cls X.K C) (hm : Meth X.K C m f) (F : FnOk X.prog X.w X.K X.mg X.base (L2.CX X.prog X.w) k f fd ps sp) (hr : Room k X.A) (b : Binds X.K fd ps []) (hx : ∀ σ, PassesAt (L2.CX X.prog X.w) X σ (E σ)) (ha : PA X (e :: es) t)
    (hst : starEach (e :: es) X.env = (false, eval e X.env) :: starEach es X.env := by rfl) (hpl : (backTo pos (starEach es X.env)).any (·.1) = false := by rfl)
    (ht : eval (.Call (.Attribute o m apos) (e :: es) [] pos) X.env = (eval o X.env >>= fun ov => standAt apos.atName >>= fun _ => holding [ov] (getMethod ov m pl) >>= fun gf => callWith pos gf.1 gf.2 (backTo pos (starEach (e :: es) X.env)) (backToKw pos (keywordEach [] X.env))) := by rfl) :
    PE X (.Call (.Attribute o m apos) (e :: es) [] pos) (tMet C m sp E ta t) := by
  constructor
  intro pins s σ H Q I h
  refine PySem.W.methodCall_KW (pl := pl) (thn (he.run pins s σ H _ I h) fun u s1 ⟨x, H1, I1, rx, a, dx, fs, ex, ea, l, q⟩ => ?_) ht
  subst ex
  obtain rfl : u = Value.ref a := rx
  refine getmeth_ok I1 ea c hm l (PySem.W.callWith_K (first := [.ref a]) (h₀ := X.base) I.ok.mod.kin hm.kp (thn (ha.run pos pins s1 σ H1 _ I1 q) fun us s2 ⟨vs, H2, I2, r, q2⟩ => ⟨I2.kIn, ?_⟩) hst hpl)
  exact below F b hr rfl (hx σ) I2 (us := .ref a :: us) (vs := .ref a :: vs) (.cons rfl r) q2
theorem pe_met0 {pl : Sem Bool} (he : PE X o ta) (c : Cls X.K C) (hm : Meth X.K C m f) (F : FnOk X.prog X.w X.K X.mg X.base (L2.CX X.prog X.w) k f fd ps sp) (hr : Room k X.A) (b : Binds X.K fd ps []) (hx : ∀ σ, PassesAt (L2.CX X.prog X.w) X σ (E σ))
    (ht : eval (.Call (.Attribute o m apos) [] [] pos) X.env = (eval o X.env >>= fun ov => standAt apos.atName >>= fun _ => holding [ov] (getMethod ov m pl) >>= fun gf => callWith pos gf.1 gf.2 (backTo pos (starEach [] X.env)) (backToKw pos (keywordEach [] X.env))) := by rfl) :
    PE X (.Call (.Attribute o m apos) [] [] pos) (tMet C m sp E ta tNil) := by
  constructor
  intro pins s σ H Q I h
  refine PySem.W.methodCall_KW (pl := pl) (thn (he.run pins s σ H _ I h) fun u s1 ⟨x, H1, I1, rx, a, dx, fs, ex, ea, l, q⟩ => ?_) ht
  subst ex
  obtain rfl : u = Value.ref a := rx
  exact getmeth_ok I1 ea c hm l (PySem.W.callWith_K0 (first := [.ref a]) I1.kIn hm.kp (below F b hr rfl (hx σ) I1 (us := [.ref a]) (vs := [.ref a]) (.cons rfl .nil) q))
end
/-- a class with its own ==, without an own != -/
structure EqC (K : PySem.W.Frag) (C f : Addr) : Prop where
  eq : PySem.W.findIn K (.ref C) "__eq__" = some (some (.ref f))
  fn : PySem.W.isFn K (.ref f) = true
  ne : PySem.W.findIn K (.ref C) "__ne__" = some (some (.builtin "object.__ne__"))
  ob : PySem.W.subIn K (.ref C) (.type "object") = some true
section
variable {X : Cx} {k : Nat} {f C : Addr} {fd : FuncData} {ps : List Str} {sp : Sp}
/-- x == y by the own def; neg: != -/
def rOwn (K : PySem.W.Frag) (C : Addr) (sp : Sp) (neg : Bool) : R2 := fun x y H Q => ∃ a dx fs tb, x = .ref a ∧ H a = some (.ins C dx fs) ∧ TyX K H y tb ∧ PySem.W.notFirst K C tb = true ∧ sp [x, y] H (fun v H' => ∃ b : Bool, v = .bl b ∧ Q (.bl (if neg then !b else b)) H') noE
theorem op_eqOwn (c : EqC X.K C f) (F : FnOk X.prog X.w X.K X.mg X.base (L2.CX X.prog X.w) k f fd ps sp) (hr : Room k X.A) (b : Binds X.K fd ps []) : OpR X (compareOp .Eq) (rOwn X.K C sp false) := by
  intro pins s σ H x y u v Q I rx ry h
  obtain ⟨a, dx, fs, tb, rfl, ha, ty, nf, h⟩ := h
  obtain rfl : u = Value.ref a := rx
  obtain ⟨mA, J, _⟩ := ins_get I.hok ha
  obtain ⟨od, J, _⟩ := J.look
  obtain ⟨m, hF⟩ := I.fr
  obtain ⟨P, Z, hP, _⟩ := kit_of I ry ty
  refine PySem.W.cmp_K (op := .Eq) (tb := tb) hr.units0 hF I.ok.mod.kin J (Z.ty _ _ I.kIn hP) nf c.eq c.fn ?_
  refine wpAny_mono (below F b hr rfl passNo I (us := [.ref a, v]) (vs := [.ref a, y]) (.cons rfl (.cons ry .nil)) h) (fun w s' q => ?_) fun _ _ z => z
  obtain ⟨z, H', I', rz, bb, rfl, q⟩ := q
  cases (show w = Value.bool bb from rz)
  exact ⟨.bl bb, H', I', rfl, by simpa using q⟩
theorem op_neOwn (c : EqC X.K C f) (F : FnOk X.prog X.w X.K X.mg X.base (L2.CX X.prog X.w) k f fd ps sp) (hr : Room (k + 1) X.A) (b : Binds X.K fd ps []) : OpR X (compareOp .NotEq) (rOwn X.K C sp true) := by
  intro pins s σ H x y u v Q I rx ry h
  obtain ⟨a, dx, fs, tb, rfl, ha, ty, nf, h⟩ := h
  obtain rfl : u = Value.ref a := rx
  obtain ⟨mA, J, _⟩ := ins_get I.hok ha
  obtain ⟨od, J, _⟩ := J.look
  obtain ⟨P, Z, hP, _⟩ := kit_of I ry ty
  have hu := hr.units0
  have X0 := I.kIn
  have one : wpAny (model X.prog X.w) X.A (tryCompare (.ref a) "__ne__" v) (fun r s' => ∃ w, r = some w ∧ EP X pins σ Q w s') X.xe s := by
    unfold tryCompare
    simp only [callSpecialIfBound?, bindSpecialIfBound?]
    refine wpAny_bind (wpAny_holding (wpAny_bind (wpAny_bind (wpAny_bind (J.type.here ((PySem.W.looks_findIn X0 c.ne).here ?_))))))
    simp only [PySem.F.cmp_object.ne.bind]
    have hI : PySem.W.Looks (model X.prog X.w) s.heap (isInstance (.ref a) (.type "object")) true := J.type.andThen (PySem.W.looks_subIn X0 c.ob)
    have cal : wpAny (model X.prog X.w) X.A (call (.builtin "object.__ne__") [.ref a, v]) (fun w s' => ∃ bb : Bool, w = .bool bb ∧ EP X pins σ Q (.bool bb) s') X.xe s := by
      refine wpAny_call (codeAny_call_builtin PySem.F.cmp_object.ne.plain PySem.F.cmpEntry_ne (PySem.W.check_slot PySem.F.cmpKind_ne PySem.F.cmpSplit_ne hI (PySem.F.cmpArgs_ne _ _) ?_))
      have eqc := below (A := X.A.in1) F b hr.in1 rfl passNo I (us := [.ref a, v]) (vs := [.ref a, y]) (.cons rfl (.cons ry .nil)) h
      have eqd : wpAny (model X.prog X.w) X.A.in1 (callSpecialIfBound? (.ref a) "__eq__" [v]) (fun r s' => ∃ bb : Bool, r = some (.bool bb) ∧ EP X pins σ Q (.bool (!bb)) s') X.xe s := by
        refine PySem.W.ifBound_K X0 J c.eq c.fn (wpAny_mono eqc (fun w s' q => ?_) fun _ _ z => z)
        obtain ⟨z, H', I', rz, bb, rfl, q⟩ := q
        cases (show w = Value.bool bb from rz)
        exact ⟨bb, rfl, .bl (!bb), H', I', rfl, by simpa using q⟩
      unfold Builtin.«object.__ne__»
      repeat (first
        | with_reducible refine wpAny_cRoomFor hr.in1.units0 ?_
        | (refine wpAny_bind (m := callSpecialIfBound? (.ref a) (Str.ofString "__eq__") [v]) (wpAny_mono eqd (fun r s' hr' => by
            obtain ⟨bb, rfl, hq⟩ := hr'
            repeat (first | exact ⟨_, rfl, hq⟩ | (refine wpAny_bind (m := truthy (.bool _)) (wpAny_truthy_bool ?_)) | wp_step)) fun _ _ z => z))
        | wp_step)
    have fin : wpAny (model X.prog X.w) X.A (call (.builtin "object.__ne__") ([.ref a] ++ [v]) >>= fun w => pure (some w)) (fun r s' => ∃ bb : Bool, r = some (.bool bb) ∧ EP X pins σ Q (.bool bb) s') X.xe s := by
      refine wpAny_bind (wpAny_mono cal (fun w s' q => ?_) fun _ _ z => z)
      obtain ⟨bb, rfl, q⟩ := q
      exact wpAny_pure ⟨bb, rfl, q⟩
    have fin2 := wpAny_mono fin (fun r s' (q : ∃ bb : Bool, r = some (.bool bb) ∧ EP X pins σ Q (.bool bb) s') => (show wpAny (model X.prog X.w) X.A (match r with
            | some Value.notImplemented => pure none
            | none => pure none
            | some w => pure (some w)) (fun r s' => ∃ w, r = some w ∧ EP X pins σ Q w s') X.xe s' from by
      obtain ⟨bb, rfl, q⟩ := q
      exact wpAny_pure ⟨_, rfl, q⟩)) fun _ _ z => z
    refine wpAny_bind (wpAny_askSetting (wpAny_ite ?_))
    split
    · exact wpAny_bind (wpAny_pure (wpAny_pure fin2))
    · exact wpAny_tryCatch (wpAny_bind (wpAny_pure (wpAny_pure fin2)))
  show wpAny (model X.prog X.w) X.A (richCompare .NotEq (.ref a) v) (EP X pins σ Q) X.xe s
  unfold richCompare
  simp only [oneThing_ref]
  refine wpAny_holding (wpAny_bind (wpAny_cRoomFor hu ?_))
  refine wpAny_bind (J.type.here (wpAny_bind ((Z.ty _ _ I.kIn hP).here ?_)))
  split
  · rename_i q
    have e : PySem.W.subIn X.K tb (.ref C) = some false := by
      rcases Bool.or_eq_true_iff.mp nf with e | e
      · rw [beq_iff_eq.mp e] at q; simp at q
      · exact beq_iff_eq.mp e
    refine wpAny_bind ((PySem.W.looks_subIn X0 e).here ?_)
    simp only [Bool.false_eq_true, if_false]
    refine wpAny_bind (wpAny_mono one (fun r s' q => ?_) fun _ _ z => z)
    obtain ⟨w, rfl, q⟩ := q
    exact wpAny_pure q
  · refine wpAny_bind (wpAny_pure ?_)
    simp only [Bool.false_eq_true, if_false]
    refine wpAny_bind (wpAny_mono one (fun r s' q => ?_) fun _ _ z => z)
    obtain ⟨w, rfl, q⟩ := q
    exact wpAny_pure q
end
end OB

set_option Elab.async false
set_option linter.all false
set_option maxRecDepth 100000
set_option maxHeartbeats 4000000
set_option autoImplicit false
/-! The data layer: own classes, lists that change, numbers in texts. -/
namespace DL
open PySem PySem.Spec PyProof.Rows L2
section
variable {X : Cx} {M : LK} {W : WX} {pn : Addr} {G G1 H H1 : Hp} {n : NS} {σ : L2.St} {δ : DEnv}
/-! ### fields -/
theorem zip_look {G : Hp} {f : Str} : ∀ {fs : List (Str × V)} {xs : List D} {d : D}, IsL M G (fs.map (·.2)) xs → ((fs.map (·.1)).zip xs).lookup f = some d → ∃ v, fs.lookup f = some v ∧ Is M G v d := fun h1 h2 => xd_look h1 h2
theorem look_none {f : Str} : ∀ {fs : List (Str × V)}, f ∉ fs.map (·.1) → fs.lookup f = none
  | [], _ => rfl
  | (g, v) :: fs, h => by
    simp only [List.map_cons, List.mem_cons, not_or] at h
    have : (f == g) = false := by simpa using h.1
    rw [List.lookup, this]
    exact look_none h.2
/-- e.f; Cs: the classes that have such a field -/
def dFld (Cs : List Addr) (f : Str) (fo : DTE) : DTE := fun δ n q e => fo δ n (fun x n1 => match x with
  | .ins C ns xs => C ∈ Cs ∧ ∃ d, (ns.zip xs).lookup f = some d ∧ q d n1
  | .ref a => ∃ C dx ns xs d, n1.mu a = some (.ins C dx ns xs) ∧ C ∈ Cs ∧ (ns.zip xs).lookup f = some d ∧ q d n1
  | _ => False) e
def FldOk (K : PySem.W.Frag) (Cs : List Addr) (f : Str) : Prop := ∀ C ∈ Cs, Cls K C ∧ NoAttr K C f
theorem dp_fld {o : Expr} {f : Str} {pos : Pos} {Cs : List Addr} {fo : DTE} (hc : FldOk X.K Cs f) (ho : PE X o (liftE M W fo)) (hb : attributeBase o f X.env (eval o X.env) = eval o X.env := by rfl) : PE X (.Attribute o f pos) (liftE M W (dFld Cs f fo)) :=
  PEw (pe_fld ho hb) fun σ H Q ⟨pn, G, n, δ, q, e, R, hf, hQ, hX⟩ => by
    refine ⟨pn, G, n, δ, _, e, R, hf, fun G1 v x n1 H1 A1 R1 i1 h1 => ?_, hX⟩
    cases x with
    | ins C ns xs =>
      simp only [Is] at i1
      obtain ⟨p, dx, fs, rfl, g1, rfl, g3⟩ := i1
      obtain ⟨hC, d, hl, h1⟩ := h1
      obtain ⟨u, hu, iu⟩ := zip_look g3 hl
      exact ⟨p, C, dx, fs, u, rfl, R1.ex _ _ g1, (hc C hC).1, (hc C hC).2, hu, hQ G1 u d n1 H1 A1 R1 iu h1⟩
    | ref a =>
      simp only [Is] at i1
      subst i1
      obtain ⟨C, dx, ns, xs, d, hm, hC, hl, h1⟩ := h1
      obtain ⟨u, g1, g2, _, _⟩ := R1.mu a _ hm
      cases u <;> simp only [MIs] at g2
      rename_i C' dx' fs
      obtain ⟨rfl, rfl, rfl, g3⟩ := g2
      obtain ⟨u, hu, iu⟩ := zip_look g3 hl
      exact ⟨a, _, _, fs, u, rfl, g1, (hc _ hC).1, (hc _ hC).2, hu, hQ G1 u d n1 H1 A1 R1 iu h1⟩
    | _ => exact h1.elim
theorem putF_new {f : Str} {v : V} : ∀ {fs : List (Str × V)}, f ∉ fs.map (·.1) → putF f v fs = fs ++ [(f, v)]
  | [], _ => rfl
  | (g, x) :: fs, h => by
    simp only [List.map_cons, List.mem_cons, not_or] at h
    show (if g = f then (g, v) :: fs else (g, x) :: putF f v fs) = _
    rw [if_neg (Ne.symm h.1), putF_new h.2]
    rfl
/-- o.f = v, a new field -/
def gField (to : TE) (K : PySem.W.Frag) (f : Str) : TG := fun v σ H Q => to σ H fun x H2 => ∃ a C dx fs, x = .ref a ∧ H2 a = some (.ins C dx fs) ∧ Cls K C ∧ NoAttr K C f ∧ fs.length < 1000 ∧ Q σ (upd H2 a (.ins C dx (putF f v fs)))
theorem pg_field {o : Expr} {f : Str} {pos : Pos} {to : TE} (ho : PE X o to) (ha : ∀ v, assign (.Attribute o f pos) X.env v = (holding [v] (eval o X.env) >>= fun ov => standAt pos.atName >>= fun _ => holding [v, ov] (setAttr ov f v) >>= fun _ => release [v, ov] []) := by intro _; rfl) : PG X (.Attribute o f pos) (gField to X.K f) := by
  constructor
  intro pins s σ H v u Q I r h
  rw [ha]
  refine wpAny_bind (wpAny_holding (thn (ho.run pins s σ H _ I h) fun ov s1 ⟨x, H2, I2, rx, a, C, dx, fs, ex, ea, c, n, l, q⟩ => ?_))
  subst ex
  obtain rfl : ov = Value.ref a := rx
  exact wpAny_bind (wpAny_standAt (wpAny_bind (wpAny_holding (setattr_ok I2 ea c n l r fun s3 I3 => wpAny_release ⟨σ, _, I3, q⟩))))
def dgFld (Cs : List Addr) (f : Str) (fo : DTE) : DTG := fun d δ n q => fo δ n (fun x n1 => match x with
  | .ref a => ∃ C dx ns xs, n1.mu a = some (.ins C dx ns xs) ∧ C ∈ Cs ∧ f ∉ ns ∧ ns.length < 1000 ∧ q δ ⟨n1.at_, mup n1.mu a (some (.ins C dx (ns ++ [f]) (xs ++ [d])))⟩
  | _ => False) noX
theorem dg_fld {o : Expr} {f : Str} {pos : Pos} {Cs : List Addr} {fo : DTE} {vs : List Nat} (hc : FldOk X.K Cs f) (ho : PE X o (liftE M W fo)) (ha : ∀ v, assign (.Attribute o f pos) X.env v = (holding [v] (eval o X.env) >>= fun ov => standAt pos.atName >>= fun _ => holding [v, ov] (setAttr ov f v) >>= fun _ => release [v, ov] []) := by intro _; rfl) : PG X (.Attribute o f pos) (liftG M vs (dgFld Cs f fo)) :=
  PGw (pg_field ho ha) fun v σ H Q ⟨pn, G, n, δ, d, q, R, hi, hg, hQ⟩ => by
    refine ⟨pn, G, n, δ, _, noX, R, hg, fun G1 w x n1 H1 A1 R1 i1 h1 => ?_, XEnd.no noX_no⟩
    cases x with
    | ref a =>
      simp only [Is] at i1
      subst i1
      obtain ⟨C, dx, ns, xs, hm, hC, hn, hl, h1⟩ := h1
      obtain ⟨u, g1, g2, _, _⟩ := R1.mu a _ hm
      cases u <;> simp only [MIs] at g2
      rename_i C' dx' fs
      obtain ⟨rfl, rfl, rfl, g3⟩ := g2
      refine ⟨a, _, _, fs, rfl, g1, (hc _ hC).1, (hc _ hC).2, by simpa using hl, ?_⟩
      rw [putF_new hn]
      refine hQ G1 σ δ _ _ ⟨A1.ge⟩ (R1.chg hm ?_) rfl h1
      simp only [MIs, List.map_append, List.map_cons, List.map_nil]
      exact ⟨trivial, trivial, trivial, IsL.append g3 (by simp only [IsL]; exact ⟨Is.up A1.ge d v hi, trivial⟩)⟩
    | _ => exact h1.elim
/-- an object aside -/
theorem Rep.side {p : Addr} {o : HO} (R : Rep M pn G n σ δ H) (h : H p = none) : Rep M pn G n σ δ (upd H p o) := by
  have np := R.penne h
  refine ⟨fun a u e => by rw [upd_ne (ne_of_none (R.ex _ _ e) h)]; exact R.ex _ _ e, R.pen.new np, R.tab.ext fun b u e => by rw [upd_ne (ne_of_none e h)]; exact e, R.nt, R.pe, fun a u e => ?_, R.env⟩
  obtain ⟨x, h1, h2⟩ := R.mu a u e
  exact ⟨x, by rw [upd_ne (ne_of_none h1 h)]; exact h1, h2⟩
end
/-! ### a new instance -/
theorem PKw {X : Cx} {e : List Keyword} {t t' : TA} (h : PK X e t) (w : ∀ σ H Q, t' σ H Q → t σ H Q) : PK X e t' := ⟨fun pos pins s σ H Q I q => h.run pos pins s σ H Q I (w _ _ _ q)⟩
section
variable {X : Cx} {M : LK} {W : WX}
theorem dk_nil : PK X [] (liftA M W dNil) := PKw pk_nil fun σ H Q ⟨pn, G, n, δ, q, e, R, hf, hQ, hX⟩ => hQ G [] [] n H Adv.refl R (by simp only [IsL]) hf
theorem dk_cons {e : Expr} {nm : Option Str} {kpos : Pos} {kws : List Keyword} {f : DTE} {g : DTA} (ha : PE X e (liftE M W f)) (hr : PK X kws (liftA M W g)) : PK X (⟨nm, e, kpos⟩ :: kws) (liftA M W (dCons f g)) :=
  PKw (pk_cons ha hr) fun σ H Q ⟨pn, G, n, δ, q, e, R, hf, hQ, hX⟩ => by
    refine ⟨pn, G, n, δ, _, e, R, hf, fun G1 v d n1 H1 A1 R1 i1 h1 => ?_, hX⟩
    refine ⟨pn, G1, n1, δ, _, e, R1, h1, fun G2 vs ds n2 H2 A2 R2 i2 h2 => ?_, hX.on R A1⟩
    exact hQ G2 (v :: vs) (d :: ds) n2 H2 (R.tr A1 A2) R2 (by simp only [IsL]; exact ⟨Is.up A2.ge d v i1, i2⟩) h2
end
/-- what the __init__ that keeps sI makes of C(..), as a promise -/
def NewOk (C : Addr) (sI s : DSp) : Prop := ∀ ds n q e, s ds n q e → ∀ a dx, n.mu a = none → sI (.ref a :: ds) ⟨n.at_, mup n.mu a (some (.ins C dx [] []))⟩ (fun d n' => d = .non ∧ ∃ ns xs dy, n'.mu a = some (.ins C dy ns xs) ∧ q (.ins C ns xs) ⟨n'.at_, mup n'.mu a none⟩) fun B ns xs n' => e B ns xs ⟨n'.at_, mup n'.mu a none⟩
/-- the class x, called with m values and the keywords ks; g: the arguments in the parameters' order -/
structure NewD (P : Program) (w : World) (K : PySem.W.Frag) (mg : Str → Option Value) (base : Heap) (M : LK) (k : Nat) (x : Str) (m : Nat) (ks : List Str) (g : List D → List D → List D) (s : DSp) : Prop where
  ex : ∃ (C f : Addr) (fd : FuncData) (ps : List Str) (gu : List Value → List Value → List Value) (gV : List V → List V → List V) (r : Nat) (sI : DSp), Mk K C f ∧ mg x = some (.ref C) ∧ FnOk P w K mg base (L2.CX P w) k f fd ps (lift M r sI) ∧ KBn K fd ps (m + 1) ks gu gV ∧
    (∀ (G : Hp) (a : Addr) (vs zs : List V) (ds es : List D), IsL M G vs ds → IsL M G zs es → ds.length = m → es.length = ks.length → IsL M G (gV (.ref a :: vs) zs) (.ref a :: g ds es) ∧ (g ds es).length + 1 = r) ∧ NewOk C sI s
def dNew (m : Nat) (ks : List Str) (g : List D → List D → List D) (s : DSp) (fa fk : DTA) : DTE := fun δ n q e => fa δ n (fun ds n1 => fk δ n1 (fun es n2 => ds.length = m ∧ es.length = ks.length ∧ s (g ds es) n2 q (e δ)) e) e
section
variable {X : Cx} {M : LK} {W : WX} {x : Str} {p pos : Pos} {e : Expr} {es : List Expr} {kws : List Keyword} {fa fk : DTA} {k j m : Nat} {ks : List Str} {g : List D → List D → List D} {s : DSp}
theorem new_lift {C : Addr} {gV : List V → List V → List V} {r : Nat} {sI : DSp} (hg : ∀ (G : Hp) (a : Addr) (vs zs : List V) (ds es : List D), IsL M G vs ds → IsL M G zs es → ds.length = m → es.length = ks.length → IsL M G (gV (.ref a :: vs) zs) (.ref a :: g ds es) ∧ (g ds es).length + 1 = r) (ok : NewOk C sI s)
    (σ : L2.St) (H : Hp) (Q : VK) (h : liftE M W (dNew m ks g s fa fk) σ H Q) : OB.tNew C m ks.length (lift M r sI) gV (fun σ cls d H' => W cls d σ H') (liftA M W fa) (liftA M W fk) σ H Q := by
  obtain ⟨pn, G, n, δ, q, e, R, hf, hQ, hX⟩ := h
  refine ⟨pn, G, n, δ, _, e, R, hf, fun G1 vs ds n1 H1 A1 R1 i1 h1 => ?_, hX⟩
  refine ⟨pn, G1, n1, δ, _, e, R1, h1, fun G2 zs es n2 H2 A2 R2 i2 h2 => ?_, hX.on R A1⟩
  obtain ⟨l1, l2, h2⟩ := h2
  refine ⟨i1.length.trans l1, i2.length.trans l2, fun a dx ha hd hne => ?_⟩
  have ha' : upd H2 dx (.own a) a = none := by rw [upd_ne (Ne.symm hne)]; exact ha
  obtain ⟨R3, A3⟩ := (R2.side (o := .own a) hd).mak (o := .ins C dx []) (u := .ins C dx [] []) ha' (by simp only [MIs, List.map_nil, IsL]; exact ⟨trivial, trivial, trivial, trivial⟩)
  have A12 := R.tr A1 A2
  obtain ⟨i3, l3⟩ := hg G2 a vs zs ds es (IsL.up A2.ge _ _ i1) i2 l1 l2
  refine ⟨pn, G2, _, _, _, _, R3.bare, i3, by simpa using l3, ok _ _ _ _ h2 a dx (R2.munone ha), fun G4 v d n4 H4 A4 R4 i4 h4 => ?_, fun G4 C' a' ns xs n4 H4 A4 R4 x4 h4 => ?_⟩
  · obtain ⟨rfl, ns, xs, dy, hm, h4⟩ := h4
    simp only [Is] at i4
    obtain ⟨G5, R5, A5, i5⟩ := frz_is R4 hm rfl
    exact ⟨i4, hQ G5 (.ref a) (.ins C ns xs) _ H4 ⟨(A12.ge.trans A4.ge).trans A5.ge⟩ (R3.back R5 ⟨A4.ge.trans A5.ge⟩) i5 h4⟩
  · exact hX G4 C' a' ns xs ⟨n4.at_, mup n4.mu a none⟩ H4 ⟨A12.ge.trans A4.ge⟩ ((R3.back R4 A4).sub ⟨Nat.le_refl _, fun b o e => by
      by_cases z : b = a
      · subst z
        rw [show (⟨n4.at_, mup n4.mu b none⟩ : NS).mu b = none from mup_same] at e
        cases e
      · rw [← e]
        exact (mup_ne z).symm⟩) x4 h4
theorem dp_newK (c : NewD X.prog X.w X.K X.mg X.base M k x m ks g s) (hr : Room j X.A) (hkj : k + 1 ≤ j) (tk : Takes X W) (hg : Gl X x) (ha : PA X (e :: es) (liftA M W fa)) (hkw : PK X kws (liftA M W fk))
    (hall : (backToKw pos (keywordEach kws X.env)).all (·.1.isSome) = true := by rfl) (hks : (backToKw pos (keywordEach kws X.env)).filterMap (·.1) = ks := by rfl) (hdb : (x == ("__debug__" : Str)) = false := by decide)
    (he : starEach (e :: es) X.env = (false, eval e X.env) :: starEach es X.env := by exact starEach_cons rfl) (hpl : ((backTo pos (starEach (e :: es) X.env)).any (·.1) || (backToKw pos (keywordEach kws X.env)).any (·.1.isNone)) = false := by rfl) : PE X (.Call (.Name x p) (e :: es) kws pos) (liftE M W (dNew m ks g s fa fk)) := by
  obtain ⟨C, f, fd, ps, gu, gV, r, sI, mk, hm, F, b, hgg, ok⟩ := c.ex
  exact PEw (OB.pe_newK mk F (hr.mono hkj) hg hm b (fun σ => passAt tk σ) ha hkw hall hks hdb he hpl) (new_lift hgg ok)
theorem dp_newP (c : NewD X.prog X.w X.K X.mg X.base M k x m [] g s) (hr : Room j X.A) (hkj : k + 1 ≤ j) (tk : Takes X W) (hg : Gl X x) (ha : PA X (e :: es) (liftA M W fa))
    (hdb : (x == ("__debug__" : Str)) = false := by decide) (he : starEach (e :: es) X.env = (false, eval e X.env) :: starEach es X.env := by exact starEach_cons rfl) (hpl : (backTo pos (starEach es X.env)).any (·.1) = false := by rfl) : PE X (.Call (.Name x p) (e :: es) [] pos) (liftE M W (dNew m [] g s fa dNil)) := by
  obtain ⟨C, f, fd, ps, gu, gV, r, sI, mk, hm, F, b, hgg, ok⟩ := c.ex
  refine PEw (OB.pe_newP mk F (hr.mono hkj) hg hm b (fun σ => passAt tk σ) ha hdb he hpl) fun σ H Q h => ?_
  obtain ⟨pn, G, n, δ, q, ex, R, hf, hQ, hX⟩ := new_lift hgg ok σ H Q h
  refine ⟨pn, G, n, δ, q, ex, R, hf, fun G' vs ds n' H' A' R' i' h' => ?_, hX⟩
  obtain ⟨pn2, G2, n2, δ2, q2, ex2, R2, hf2, hQ2, _⟩ := hQ G' vs ds n' H' A' R' i' h'
  exact hQ2 G2 [] [] n2 H' Adv.refl R2 (by simp only [IsL]) hf2
/-! ### methods -/
structure MetD (P : Program) (w : World) (K : PySem.W.Frag) (mg : Str → Option Value) (base : Heap) (M : LK) (k : Nat) (C : Addr) (y : Str) (ps : List Str) (s : DSp) : Prop where
  ex : ∃ f fd, Cls K C ∧ Meth K C y f ∧ FnOk P w K mg base (L2.CX P w) k f fd ps (lift M ps.length s) ∧ Binds K fd ps []
def dMet (C : Addr) (y : Str) (r : Nat) (s : DSp) (fo : DTE) (fa : DTA) : DTE := fun δ n q e => fo δ n (fun x n1 => match x with
  | .ins C' ns xs => C' = C ∧ y ∉ ns ∧ fa δ n1 (fun ds n2 => ds.length + 1 = r ∧ s (.ins C' ns xs :: ds) n2 q (e δ)) e
  | _ => False) e
theorem met_lift {C : Addr} {y : Str} {r : Nat} {fo : DTE} (σ : L2.St) (H : Hp) (Q : VK) (h : liftE M W (dMet C y r s fo fa) σ H Q) : OB.tMet C y (lift M r s) (fun σ cls d H' => W cls d σ H') (liftE M W fo) (liftA M W fa) σ H Q := by
  obtain ⟨pn, G, n, δ, q, e, R, hf, hQ, hX⟩ := h
  refine ⟨pn, G, n, δ, _, e, R, hf, fun G1 v x n1 H1 A1 R1 i1 h1 => ?_, hX⟩
  cases x with
  | ins C' ns xs =>
    obtain ⟨rfl, hy, h1⟩ := h1
    have i1' := i1
    simp only [Is] at i1'
    obtain ⟨a, dx, fs, rfl, g1, rfl, g3⟩ := i1'
    refine ⟨a, dx, fs, rfl, R1.ex _ _ g1, look_none hy, pn, G1, n1, δ, _, e, R1, h1, fun G2 vs ds n2 H2 A2 R2 i2 h2 => ?_, hX.on R A1⟩
    exact ⟨pn, G2, n2, _, q, e δ, R2.bare, by simp only [IsL]; exact ⟨Is.up A2.ge _ _ i1, i2⟩, (by simpa using h2.1), h2.2, fun G3 v d n3 H3 A3 R3 i3 h3 => hQ G3 v d n3 H3 (R.tr (R.tr A1 A2) A3) (R2.back R3 A3) i3 h3, fun G3 C a ns xs n3 H3 A3 R3 x3 h3 => hX G3 C a ns xs n3 H3 (R.tr (R.tr A1 A2) A3) (R2.back R3 A3) x3 h3⟩
  | _ => exact h1.elim
theorem dp_met {C : Addr} {y : Str} {ps : List Str} {o : Expr} {fo : DTE} {apos : Pos} {r : Nat} {pl : Sem Bool} (c : MetD X.prog X.w X.K X.mg X.base M k C y ps s) (hr : Room j X.A) (hkj : k ≤ j) (tk : Takes X W) (ho : PE X o (liftE M W fo)) (ha : PA X (e :: es) (liftA M W fa)) (hm : ps.length = r := by rfl)
    (hst : starEach (e :: es) X.env = (false, eval e X.env) :: starEach es X.env := by exact starEach_cons rfl) (hpl : (backTo pos (starEach es X.env)).any (·.1) = false := by rfl)
    (ht : eval (.Call (.Attribute o y apos) (e :: es) [] pos) X.env = (eval o X.env >>= fun ov => standAt apos.atName >>= fun _ => holding [ov] (getMethod ov y pl) >>= fun gf => callWith pos gf.1 gf.2 (backTo pos (starEach (e :: es) X.env)) (backToKw pos (keywordEach [] X.env))) := by rfl) :
    PE X (.Call (.Attribute o y apos) (e :: es) [] pos) (liftE M W (dMet C y r s fo fa)) := by
  subst hm
  obtain ⟨f, fd, cl, hm, F, b⟩ := c.ex
  exact PEw (OB.pe_met ho cl hm F (hr.mono hkj) b (fun σ => passAt tk σ) ha hst hpl ht) met_lift
theorem dp_met0 {C : Addr} {y : Str} {ps : List Str} {o : Expr} {fo : DTE} {apos : Pos} {r : Nat} {pl : Sem Bool} (c : MetD X.prog X.w X.K X.mg X.base M k C y ps s) (hr : Room j X.A) (hkj : k ≤ j) (tk : Takes X W) (ho : PE X o (liftE M W fo)) (hm : ps.length = r := by rfl)
    (ht : eval (.Call (.Attribute o y apos) [] [] pos) X.env = (eval o X.env >>= fun ov => standAt apos.atName >>= fun _ => holding [ov] (getMethod ov y pl) >>= fun gf => callWith pos gf.1 gf.2 (backTo pos (starEach [] X.env)) (backToKw pos (keywordEach [] X.env))) := by rfl) :
    PE X (.Call (.Attribute o y apos) [] [] pos) (liftE M W (dMet C y r s fo dNil)) := by
  subst hm
  obtain ⟨f, fd, cl, hm, F, b⟩ := c.ex
  refine PEw (OB.pe_met0 ho cl hm F (hr.mono hkj) b (fun σ => passAt tk σ) ht) fun σ H Q h => ?_
  obtain ⟨pn, G, n, δ, q, ex, R, hf, hQ, hX⟩ := met_lift σ H Q h
  refine ⟨pn, G, n, δ, q, ex, R, hf, fun G' v d n' H' A' R' i' h' => ?_, hX⟩
  obtain ⟨a, dx, fs, e1, e2, e3, pn2, G2, n2, δ2, q2, ex2, R2, hf2, hQ2, _⟩ := hQ G' v d n' H' A' R' i' h'
  exact ⟨a, dx, fs, e1, e2, e3, hQ2 G2 [] [] n2 H' Adv.refl R2 (by simp only [IsL]) hf2⟩
end
/-! ### == and != by an own __eq__ -/
section
variable {X : Cx} {M : LK} {W : WX}
structure EqD (P : Program) (w : World) (K : PySem.W.Frag) (mg : Str → Option Value) (base : Heap) (M : LK) (k : Nat) (C : Addr) (s : DSp) : Prop where
  ex : ∃ f fd ps, OB.EqC K C f ∧ FnOk P w K mg base (L2.CX P w) k f fd ps (lift M 2 s) ∧ Binds K fd ps []
/-- the one who compares is an instance of C; otherwise as gEq | gNe -/
def gEqO (K : PySem.W.Frag) (C : Addr) (s : DSp) (neg : Bool) : GR2 := fun x y n q => match x with
  | .ins C' ns xs => C' = C ∧ (∃ t, tyD K y t ∧ PySem.W.notFirst K C t = true) ∧ s [.ins C' ns xs, y] n (fun d n' => ∃ b : Bool, d = .bl b ∧ q (.bl (if neg then !b else b)) n') fun _ _ _ _ => False
  | x => eqD x y fun b => q (.bl (if neg then !b else b)) n
theorem own_is {C : Addr} {s : DSp} {neg : Bool} {pn : Addr} {G H : Hp} {n : NS} {σ : L2.St} {δ : DEnv} {v u : V} {y : D} {C' : Addr} {ns : List Str} {xs : List D} {q : D → NS → Prop} {Q : VK} (R : Rep M pn G n σ δ H) (ix : Is M G v (.ins C' ns xs)) (iy : Is M G u y) (h : gEqO M.L.K C s neg (.ins C' ns xs) y n q)
    (k : ∀ G' w d n' H', Adv pn G H G' H' → Rep M pn G' n' σ δ H' → Is M G' w d → q d n' → Q w H') : OB.rOwn M.L.K C (lift M 2 s) neg v u H Q := by
  obtain ⟨rfl, ⟨t, ht, hn⟩, h⟩ := h
  have ix' := ix
  simp only [Is] at ix'
  obtain ⟨a, dx, fs, rfl, g1, rfl, g3⟩ := ix'
  refine ⟨a, dx, fs, t, rfl, R.ex _ _ g1, tyD_ok R.ex ht iy, hn, pn, G, n, _, _, _, R.bare, by simp only [IsL]; exact ⟨ix, iy, trivial⟩, rfl, h, fun G1 w d n1 H1 A1 R1 i1 h1 => ?_, fun _ _ _ _ _ _ _ _ _ _ z => z.elim⟩
  obtain ⟨b, rfl, h1⟩ := h1
  simp only [Is] at i1
  exact ⟨b, i1, k G1 (.bl (if neg then !b else b)) (.bl (if neg then !b else b)) n1 H1 A1 (R.back R1 A1) (by simp only [Is]) h1⟩
theorem op_eqO {C : Addr} {s : DSp} {k j : Nat} (c : EqD X.prog X.w X.K X.mg X.base M k C s) (hK : X.K = M.L.K) (hr : Room j X.A) (hkj : k ≤ j) : OpR X (compareOp .Eq) (fun x y H Q => (rEq x y H Q ∨ rEqD M.L.K x y H Q) ∨ OB.rOwn M.L.K C (lift M 2 s) false x y H Q) := by
  obtain ⟨f, fd, ps, e, F, b⟩ := c.ex
  exact OpR.or (op_eqX hK (by have := hr.un; omega)) (hK ▸ OB.op_eqOwn e F (hr.mono hkj) b)
theorem op_neO {C : Addr} {s : DSp} {k j : Nat} (c : EqD X.prog X.w X.K X.mg X.base M k C s) (hK : X.K = M.L.K) (hr : Room j X.A) (hkj : k + 1 ≤ j) : OpR X (compareOp .NotEq) (fun x y H Q => (rNe x y H Q ∨ rNeD M.L.K x y H Q) ∨ OB.rOwn M.L.K C (lift M 2 s) true x y H Q) := by
  obtain ⟨f, fd, ps, e, F, b⟩ := c.ex
  exact OpR.or (op_neX hK (by have := hr.un; omega)) (hK ▸ OB.op_neOwn e F (hr.mono hkj) b)
theorem dr_eqO {C : Addr} {s : DSp} : DR2 M (fun x y H Q => (rEq x y H Q ∨ rEqD M.L.K x y H Q) ∨ OB.rOwn M.L.K C (lift M 2 s) false x y H Q) (gEqO M.L.K C s false) := by
  intro pn G n σ δ H v u x y q Q R ix iy h k
  cases x with
  | ins C' ns xs => exact .inr (own_is R ix iy h k)
  | _ => exact .inl (dr_eq pn G n σ δ H v u _ y q Q R ix iy (by simpa only [gEqO, gEq, Bool.false_eq_true, if_false] using h) k)
theorem dr_neO {C : Addr} {s : DSp} : DR2 M (fun x y H Q => (rNe x y H Q ∨ rNeD M.L.K x y H Q) ∨ OB.rOwn M.L.K C (lift M 2 s) true x y H Q) (gEqO M.L.K C s true) := by
  intro pn G n σ δ H v u x y q Q R ix iy h k
  cases x with
  | ins C' ns xs => exact .inr (own_is R ix iy h k)
  | _ => exact .inl (dr_ne pn G n σ δ H v u _ y q Q R ix iy (by simpa only [gEqO, gNe, if_true] using h) k)
end
end DL

set_option Elab.async false
set_option linter.all false
set_option maxRecDepth 100000
set_option maxHeartbeats 4000000
set_option autoImplicit false
/-! The data layer: lists that change, name op= e, numbers in texts. -/
namespace DL
open PySem PySem.Spec PyProof.Rows L2
section
variable {X : Cx} {M : LK} {W : WX}
/-! ### lists that change -/
def dApp (fo fe : DTE) : DTE := fun δ n q e => fo δ n (fun x n1 => ∃ a, x = .ref a ∧ (∃ xs, n1.mu a = some (.lst xs)) ∧ fe δ n1 (fun y n2 => ∃ xs, n2.mu a = some (.lst xs) ∧ xs.length < 100000 ∧ q .non ⟨n2.at_, mup n2.mu a (some (.lst (xs ++ [y])))⟩) e) e
theorem dp_app {o e : Expr} {apos pos : Pos} {fo fe : DTE} (h : PE X (.Call (.Attribute o "append" apos) [e] [] pos) (tBM X.K "list" rAppend (liftE M W fo) (liftA M W (dCons fe dNil)))) : PE X (.Call (.Attribute o "append" apos) [e] [] pos) (liftE M W (dApp fo fe)) :=
  PEw h fun σ H Q ⟨pn, G, n, δ, q, e, R, hf, hQ, hX⟩ => by
    refine ⟨pn, G, n, δ, _, e, R, hf, fun G1 v x n1 H1 A1 R1 i1 h1 => ?_, hX⟩
    obtain ⟨a, rfl, ⟨xs0, hm0⟩, h1⟩ := h1
    simp only [Is] at i1
    subst i1
    obtain ⟨u, g1, g2, _, _⟩ := R1.mu a _ hm0
    cases u <;> simp only [MIs] at g2
    refine ⟨.inl ⟨rfl, _, SqL.of g1⟩, pn, G1, n1, δ, fun ds n2 => ∃ y, ds = [y] ∧ ∃ xs, n2.mu a = some (.lst xs) ∧ xs.length < 100000 ∧ q .non ⟨n2.at_, mup n2.mu a (some (.lst (xs ++ [y])))⟩, e, R1, ?_, fun G2 vs ds n2 H2 A2 R2 i2 h2 => ?_, hX.on R A1⟩
    · simpa only [dCons, dNil, List.cons.injEq, and_true, exists_eq_left'] using h1
    · obtain ⟨y, rfl, xs, hm, hl, h2⟩ := h2
      obtain ⟨w, rfl, iw⟩ := i2.one
      obtain ⟨u, k1, k2, _, _⟩ := R2.mu a _ hm
      cases u <;> simp only [MIs] at k2
      rename_i vs
      refine ⟨a, vs, w, rfl, rfl, k1, by rw [k2.length]; exact Nat.lt_of_lt_of_le hl (le_line (Nat.le_refl _)), hQ G2 .non .non _ _ ⟨A1.ge.trans A2.ge⟩ (R2.chg hm ?_) (by simp only [Is]) h2⟩
      simp only [MIs]
      exact IsL.append k2 (by simp only [IsL]; exact ⟨iw, trivial⟩)
theorem IsL.set {G : Hp} : ∀ {ds : List D} {vs : List V} {i : Nat} {v : V} {d : D}, IsL M G vs ds → Is M G v d → IsL M G (vs.set i v) (ds.set i d)
  | [], [], _, _, _, h, _ => by simpa using h
  | d :: ds, v :: vs, 0, _, _, h, g => by
    simp only [IsL, List.set_cons_zero] at h ⊢
    exact ⟨g, h.2⟩
  | d :: ds, v :: vs, i + 1, _, _, h, g => by
    simp only [IsL, List.set_cons_succ] at h ⊢
    exact ⟨h.1, IsL.set h.2 g⟩
  | [], _ :: _, _, _, _, h, _ => by simp only [IsL] at h
  | _ :: _, [], _, _, _, h, _ => by simp only [IsL] at h
/-- o[i] = v, o a list that changes -/
def dgIx (fo fi : DTE) : DTG := fun d δ n q => fo δ n (fun x n1 => fi δ n1 (fun y n2 => ∃ a k j xs, x = .ref a ∧ y = .int k ∧ n2.mu a = some (.lst xs) ∧ ixN xs.length k = some j ∧ q δ ⟨n2.at_, mup n2.mu a (some (.lst (xs.set j d)))⟩) noX) noX
theorem dg_ix {o i : Expr} {pos : Pos} {fo fi : DTE} {vs : List Nat} (h : PG X (.Subscript o i pos) (L2.gSub (liftE M W fo) (liftE M W fi) rSetL)) : PG X (.Subscript o i pos) (liftG M vs (dgIx fo fi)) :=
  PGw h fun v σ H Q ⟨pn, G, n, δ, d, q, R, hi, hg, hQ⟩ => by
    refine ⟨pn, G, n, δ, _, noX, R, hg, fun G1 w x n1 H1 A1 R1 i1 h1 => ?_, XEnd.no noX_no⟩
    refine ⟨pn, G1, n1, δ, _, noX, R1, h1, fun G2 u y n2 H2 A2 R2 i2 h2 => ?_, XEnd.no noX_no⟩
    obtain ⟨a, k, j, xs, rfl, rfl, hm, hj, h2⟩ := h2
    simp only [Is] at i1 i2
    subst i1; subst i2
    obtain ⟨u, k1, k2, _, _⟩ := R2.mu a _ hm
    cases u <;> simp only [MIs] at k2
    rename_i us
    refine ⟨a, us, k, j, rfl, rfl, k1, by rw [k2.length]; exact hj, hQ G2 σ δ _ _ ⟨A1.ge.trans A2.ge⟩ (R2.chg hm ?_) rfl h2⟩
    simp only [MIs]
    exact IsL.set k2 (Is.up (A1.ge.trans A2.ge) d v hi)
/-- what a def has made for itself is forgotten at its end -/
def dForg (f : DTS) : DTS := fun k δ n => f { k with nx := fun δ' n' => ∃ n2, NS.Sub n2 n' ∧ k.nx δ' n2, rt := fun d n' => ∃ n2, NS.Sub n2 n' ∧ k.rt d n2, ex := fun δ' C ns xs n' => ∃ n2, NS.Sub n2 n' ∧ k.ex δ' C ns xs n2 } δ n
theorem dss_forg {b : List Stmt} {f : DTS} (h : PSs X b (liftS M W f)) : PSs X b (liftS M W (dForg f)) :=
  PSsw h fun D₀ σ H ⟨pn, G, n, δ, k, R, hf, s⟩ => ⟨pn, G, n, δ, _, R, hf, ⟨fun G' σ' δ' n' H' A' R' ⟨n2, h1, h2⟩ => s.nx G' σ' δ' n2 H' A' (R'.sub h1) h2, fun G' σ' δ' v d n' H' A' R' i' ⟨n2, h1, h2⟩ => s.rt G' σ' δ' v d n2 H' A' (R'.sub h1) i' h2, s.bk, s.ct,
    fun G' σ' δ' C a ns ds n' H' A' R' x' ⟨n2, h1, h2⟩ => s.ex G' σ' δ' C a ns ds n2 H' A' (R'.sub h1) x' h2⟩⟩
theorem sub_mup {t : Nat} {m : Addr → Option MO} {a : Addr} {o : Option MO} (h : m a = none) : NS.Sub ⟨t, m⟩ ⟨t, mup m a o⟩ := ⟨Nat.le_refl _, fun b u e => by
  show mup m a o b = some u
  rw [mup_ne fun z => by rw [z] at e; exact absurd (h.symm.trans e) (fun w => by cases w)]
  exact e⟩
/-! ### name += e, name -= e -/
def dAug (i : Nat) (g : Int → Int → Int) (fe : DTE) : DTS := fun k δ n => ∃ a, δ[i]? = some (some (.int a)) ∧ fe δ n (fun y n1 => ∃ b, y = .int b ∧ k.nx (δ.set i (some (.int (g a b)))) n1) k.ex
theorem ds_aug {st : Stmt} {i : Nat} {g : Int → Int → Int} {fe : DTE} (h : PS X st (tAug i (liftE M W fe) (ipI g))) : PS X st (liftS M W (dAug i g fe)) :=
  PSw h fun D₀ σ H ⟨pn, G, n, δ, k, R, ⟨a, ha, hf⟩, s⟩ => by
    obtain ⟨v, hv, iv⟩ := R.env.get ha
    simp only [Is] at iv
    subst iv
    refine ⟨_, hv, pn, G, n, δ, _, k.ex, R, hf, fun G1 w d n1 H1 A1 R1 i1 h1 => ?_, s.xe⟩
    obtain ⟨b, rfl, h1⟩ := h1
    simp only [Is] at i1
    exact ⟨a, b, rfl, i1, s.nx G1 _ _ n1 H1 A1 (R1.put (by simp only [Is])) h1⟩
/-! ### numbers in texts -/
/-- the decimal digits of a number, as codes -/
def decN (m : Nat) : List Nat := (Nat.toDigits 10 m).map Char.toNat
def decI (i : Int) : List Nat := if i < 0 then 45 :: decN i.natAbs else decN i.natAbs
theorem S_of {x : Str} {l : List Nat} (h : x.cps.toList = l) : x = S l := by
  cases x
  subst h
  rfl
theorem str_int (i : Int) : PySem.Str.ofString (toString i) = S (decI i) := by
  refine S_of ?_
  rw [signs_ofString]
  cases i with
  | ofNat m =>
    have : decI (Int.ofNat m) = decN m := by
      unfold decI
      rw [if_neg (by simp)]
      rfl
    rw [this]
    show (Nat.repr m).toList.map Char.toNat = _
    rw [Nat.toList_repr]
    rfl
  | negSucc m =>
    have : decI (Int.negSucc m) = 45 :: decN (m + 1) := by
      unfold decI
      rw [if_pos (by omega)]
      rfl
    rw [this]
    show ("-" ++ Nat.repr (m + 1)).toList.map Char.toNat = _
    rw [String.toList_append, List.map_append, Nat.toList_repr]
    rfl
def gStr : GC := fun xs n q => match xs with
  | [.int i] => i.natAbs.log2 < 1920 ∧ q (.str (decI i)) n
  | _ => False
theorem drc_str : DRC M (fun xs H Q => ∃ i : Int, xs = [.int i] ∧ i.natAbs.log2 < 1920 ∧ Q (.str (toString i)) H) gStr := by
  intro pn G n σ δ H vs xs q Q R iv h k
  unfold gStr at h
  split at h
  · rename_i i
    obtain ⟨v, rfl, iw⟩ := iv.one
    simp only [Is] at iw
    subst iw
    exact ⟨i, rfl, h.1, k G _ (.str (decI i)) n H Adv.refl R (by simp only [Is]; rw [str_int]) h.2⟩
  · exact h.elim
/-- int of an int, a truth, a text -/
def gIntT : GC := fun xs n q => match xs with
  | [.int i] => q (.int i) n
  | [.bl b] => q (.int (if b then 1 else 0)) n
  | [.str l] => l.length ≤ 640 ∧ ∃ i, PySem.intText? (S l) = some i ∧ q (.int i) n
  | _ => False
theorem drc_intT : DRC M (fun xs H Q => ((∃ i, xs = [.int i] ∧ Q (.int i) H) ∨ ∃ k : Bool, xs = [.bl k] ∧ Q (.int (if k then 1 else 0)) H) ∨ ∃ a i, xs = [.str a] ∧ PySem.intText? a = some i ∧ a.length ≤ 640 ∧ Q (.int i) H) gIntT := by
  intro pn G n σ δ H vs xs q Q R iv h k
  unfold gIntT at h
  split at h
  · rename_i i
    exact .inl (drc_int pn G n σ δ H vs [.int i] q Q R iv h k)
  · rename_i b
    exact .inl (drc_int pn G n σ δ H vs [.bl b] q Q R iv h k)
  · rename_i l
    obtain ⟨v, rfl, iw⟩ := iv.one
    simp only [Is] at iw
    subst iw
    obtain ⟨hl, i, hi, h⟩ := h
    exact .inr ⟨S l, i, rfl, hi, by rw [S_len]; exact hl, k G _ (.int i) n H Adv.refl R (by simp only [Is]) h⟩
  · exact h.elim
theorem cl_intT (hc : X.calm = true) : CallR X (.type "int") (fun xs H Q => ((∃ i, xs = [.int i] ∧ Q (.int i) H) ∨ ∃ k : Bool, xs = [.bl k] ∧ Q (.int (if k then 1 else 0)) H) ∨ ∃ a i, xs = [.str a] ∧ PySem.intText? a = some i ∧ a.length ≤ 640 ∧ Q (.int i) H) := CallR.or call_int1 call_int_str
/-! ### methods of texts -/
def gStarts : GM := fun x xs n q => match x, xs with
  | .str l, [.str b] => q (.bl (decide (l.take b.length = b))) n
  | _, _ => False
theorem starts_S (l b : List Nat) : Txt.startswith (S l) (S b) = decide (l.take b.length = b) := by
  unfold Txt.startswith Builtin.Str.subAt
  rw [S_len, S_len, Nat.zero_add]
  show (decide (b.length ≤ l.length) && (l.toArray.extract 0 b.length == b.toArray)) = _
  by_cases h : l.take b.length = b
  · rw [decide_eq_true h]
    have h1 : b.length ≤ l.length := by
      have := congrArg List.length h
      rw [List.length_take] at this
      omega
    rw [decide_eq_true h1, Bool.true_and]
    simp [h]
  · rw [decide_eq_false h]
    rw [Bool.and_eq_false_iff]
    right
    rw [beq_eq_false_iff_ne]
    intro z
    exact h (by simpa using z)
theorem drm_starts : DRM M (fun x xs H Q => ∃ a b, x = .str a ∧ xs = [.str b] ∧ Q (.bl (Txt.startswith a b)) H) gStarts := by
  intro pn G n σ δ H v vs x xs q Q R iv ivs h k
  unfold gStarts at h
  split at h
  · rename_i l b
    simp only [Is] at iv
    obtain ⟨u, rfl, iu⟩ := ivs.one
    simp only [Is] at iu
    exact ⟨S l, S b, iv, by rw [iu], k G _ (.bl (decide (l.take b.length = b))) n H Adv.refl R (by simp only [Is]; rw [starts_S]) h⟩
  · exact h.elim
/-- text.partition(sign) -/
def partL (c : Nat) (l : List Nat) : List Nat × List Nat × List Nat := if c ∈ l then (l.takeWhile (· != c), [c], (l.dropWhile (· != c)).tail) else (l, [], [])
theorem part_S (l : List Nat) (c : Nat) : Txt.partition (S l) (S [c]) = (S (partL c l).1, S (partL c l).2.1, S (partL c l).2.2) := by
  have h1 := StrLaws.found_one (S l) c
  rw [S_cps] at h1
  unfold partL
  by_cases hc : c ∈ l
  · rw [if_pos hc]
    rw [decide_eq_true hc] at h1
    have he : (Builtin.Str.occurrences (S l) ⟨#[c]⟩ 0 (S l).length 1).isEmpty = false := by simpa using h1
    have h2 := PyProof.Rows.from_first_some (x := S l) (y := ⟨#[c]⟩) (z := ⟨#[c]⟩) rfl rfl he
    have h2' := eq_of_beq h2
    rw [S_cps] at h2'
    cases ho : Builtin.Str.occurrences (S l) ⟨#[c]⟩ 0 (S l).length 1 with
    | nil => rw [ho] at he; simp at he
    | cons i rest =>
      have sp := (StrLaws.occ_spec (S l) ⟨#[c]⟩ 0 (S l).length 1 i (by rw [ho]; exact List.mem_cons_self)).1
      have hp : Txt.partition (S l) ⟨#[c]⟩ = (Builtin.Str.strSub (S l) 0 i, ⟨#[c]⟩, Builtin.Str.strSub (S l) (i + 1) (S l).length) := by
        unfold Txt.partition
        rw [ho]
        rfl
      have sp' : i + 1 ≤ l.length := by
        have : (⟨#[c]⟩ : Str).length = 1 := rfl
        rw [this, S_len] at sp
        exact sp
      have e3 : Builtin.Str.strSub (S l) (i + 1) (S l).length = S (l.drop (i + 1)) := by
        unfold Builtin.Str.strSub
        rw [S_len]
        simp
        rw [List.take_of_length_le (by rw [List.length_drop]; omega)]
      have e1 : Builtin.Str.strSub (S l) 0 i = S (l.take i) := by
        unfold Builtin.Str.strSub
        simp
      rw [hp] at h2'
      rw [e3] at h2'
      have h4 : c :: l.drop (i + 1) = l.dropWhile (· != c) := by
        have : S ([c] ++ l.drop (i + 1)) = S (l.dropWhile (· != c)) := by
          rw [← S_app]
          exact h2'
        exact S_inj.mp this
      have h5 : (l.takeWhile (· != c)).length = i := by
        have z := congrArg List.length (List.takeWhile_append_dropWhile (p := (· != c)) (l := l))
        rw [List.length_append, ← h4, List.length_cons, List.length_drop] at z
        omega
      have h6 : l.take i = l.takeWhile (· != c) := by
        have z := List.takeWhile_append_dropWhile (p := (· != c)) (l := l)
        have y : l.take i = (l.takeWhile (· != c) ++ l.dropWhile (· != c)).take i := by rw [z]
        rw [y, List.take_append_of_le_length (by omega), List.take_of_length_le (by omega)]
      show Txt.partition (S l) ⟨#[c]⟩ = _
      rw [hp, e1, e3, h6, ← h4]
      rfl
  · rw [if_neg hc]
    rw [decide_eq_false hc] at h1
    have he : (Builtin.Str.occurrences (S l) ⟨#[c]⟩ 0 (S l).length 1).isEmpty = true := by simpa using h1
    show Txt.partition (S l) ⟨#[c]⟩ = _
    unfold Txt.partition
    cases ho : Builtin.Str.occurrences (S l) ⟨#[c]⟩ 0 (S l).length 1 with
    | nil => rfl
    | cons i rest => rw [ho] at he; simp at he
def gPart : GM := fun x xs n q => match x, xs with
  | .str l, [.str [c]] => l.length ≤ 100000 ∧ q (.tup [.str (partL c l).1, .str (partL c l).2.1, .str (partL c l).2.2]) n
  | _, _ => False
theorem drm_part : DRM M (fun x xs H Q => ∃ a b, x = .str a ∧ xs = [.str b] ∧ (b.length == 0) = false ∧ a.length ≤ sizeLine ∧ ∀ p, H p = none → Q (.ref p) (upd H p (.tup [.str (Txt.partition a b).1, .str (Txt.partition a b).2.1, .str (Txt.partition a b).2.2]))) gPart := by
  intro pn G n σ δ H v vs x xs q Q R iv ivs h k
  unfold gPart at h
  split at h
  · rename_i l c
    simp only [Is] at iv
    obtain ⟨u, rfl, iu⟩ := ivs.one
    simp only [Is] at iu
    refine ⟨S l, S [c], iv, by rw [iu], rfl, by rw [S_len]; exact le_line h.1, fun p hp => ?_⟩
    rw [part_S]
    obtain ⟨R2, A2⟩ := R.lay (o := .tup [.str (S (partL c l).1), .str (S (partL c l).2.1), .str (S (partL c l).2.2)]) hp notTbl_tup
    exact k _ _ _ n _ A2 R2 (by simp only [Is]; exact ⟨p, _, rfl, SqT.of upd_same, by simp only [IsL, Is]; exact ⟨trivial, trivial, trivial, trivial⟩⟩) h.2
  · exact h.elim
theorem pe_startsX {o e : Expr} {to te : TE} {apos pos : Pos} (ho : PE X o to) (he : PE X e te) (hs : starEach [e] X.env = [(false, eval e X.env)] := by rfl) (hbase : attributeBase o "startswith" X.env (eval o X.env) = eval o X.env := by rfl) (hline : (apos.endLine == pos.line) = true := by rfl) :
    PE X (.Call (.Attribute o "startswith" apos) [e] [] pos) (tM1 (fun x xs H Q => ∃ a b, x = .str a ∧ xs = [.str b] ∧ Q (.bl (Txt.startswith a b)) H) to te) :=
  pe_m1 F.slot_str_startswith F.type_str_startswith mt_startswith ho he hs hbase hline
end
end DL

set_option Elab.async false
set_option linter.all false
set_option maxRecDepth 100000
set_option maxHeartbeats 4000000
set_option autoImplicit false
/-! sorted(l, key = lambda x: ..): two items, keys that are pairs of an int and a truth. -/
namespace SKy
open PySem PySem.Spec PyProof.Rows L2 SrtO
/-- v is a tuple of an int and a truth in the heap -/
def IsPB (h : Heap) (v : Value) (x : Int) (b : Bool) : Prop := ∃ a o t n, v = .ref a ∧ h.get? a = some o ∧ o.cls = .type "tuple" ∧ o.data = .seq #[.int x t, .bool b] n
theorem IsPB.keeps {h h' : Heap} {v : Value} {x : Int} {b : Bool} (p : IsPB h v x b) (k : ∀ b o, h.get? b = some o → o.cls = .type "tuple" → h'.get? b = some o) : IsPB h' v x b := by
  obtain ⟨a, o, t, n, e, ho, hc, hd⟩ := p
  exact ⟨a, o, t, n, e, k _ _ ho hc, hc, hd⟩
abbrev kz (k : Value → Int × Bool) (v : Value) : Int × Int := ((k v).1, b2i (k v).2)
section
variable {prog : Program} {w : World} {A : Around} {E : Value → Shared → Prop} {s : Shared}
theorem pb_cmp {vs : List Value} {k : Value → Int × Bool} (hp : ∀ v ∈ vs, IsPB s.heap v (k v).1 (k v).2) : Cmp prog w A s (tuples' true) (fun p => p.1 ∈ vs) (lt2 fun v u => lexB (kz k v) (kz k u)) := by
  intro p q hm hm'
  have h1 := hp _ hm
  have h2 := hp _ hm'
  show wpAny (model prog w) A (keyLt' (tuples' true) p.1 q.1) (fun r s' => s' = s ∧ r = lexB (kz k p.1) (kz k q.1)) (fun _ _ => False) s
  unfold lexB kz
  generalize (k p.1).1 = x at h1 ⊢
  generalize (k p.1).2 = y at h1 ⊢
  generalize (k q.1).1 = x' at h2 ⊢
  generalize (k q.1).2 = y' at h2 ⊢
  obtain ⟨a, o, t, n, e, ho, hc, hd⟩ := h1
  obtain ⟨a', o', t', n', e', ho', hc', hd'⟩ := h2
  rw [e, e']
  refine PySem.W.kat_lt ho hd ho' hd' ?_
  show PySem.W.KatLex prog w A true (decide (2 < 2)) _ [(.int x t, .int x' t'), (.bool y, .bool y')] 0 s
  refine PySem.W.kat_cons (SeqAt.EqAt.int_int x t x' t' prog w _ _ ?_)
  refine PySem.W.kat_go (fun e1 => ?_) (fun e1 => ?_)
  · have ex : x = x' := by simpa using e1
    refine PySem.W.kat_yes (PySem.W.kat_cons (SeqAt.EqAt.bool_bool y y' prog w _ _ ?_))
    refine PySem.W.kat_go (fun e2 => ?_) (fun e2 => ?_)
    · have ey : y = y' := by simpa using e2
      have e3 : (if x = x' then decide (b2i y < b2i y') else decide (x < x')) = false := by
        rw [if_pos ex, ey]
        exact decide_eq_false (Int.lt_irrefl _)
      exact PySem.W.kat_yes (PySem.W.kat_nil ⟨rfl, e3.symm⟩)
    · have e3 : (if x = x' then decide (b2i y < b2i y') else decide (x < x')) = decide (b2i y < b2i y') := if_pos ex
      refine PySem.W.kat_no (PySem.W.kat_one _ _ (PyProof.Rows.lt_bool ?_))
      exact (show s = s ∧ decide (b2i y < b2i y') = (if x = x' then decide (b2i y < b2i y') else decide (x < x')) from ⟨rfl, e3.symm⟩)
  · have ex : ¬ x = x' := by simpa using e1
    have e3 : (if x = x' then decide (b2i y < b2i y') else decide (x < x')) = decide (x < x') := if_neg ex
    exact PySem.W.kat_no (oneLt_int ⟨rfl, e3.symm⟩)
theorem pb_kind {v1 v2 : Value} {x1 x2 : Int} {b1 b2 : Bool} {Q : SortKind → Shared → Prop} (h1 : IsPB s.heap v1 x1 b1) (h2 : IsPB s.heap v2 x2 b2) (h : Q (tuples' true) s) : wpAny (model prog w) A (keyKind' #[v1, v2]) Q E s := by
  obtain ⟨a, o, t, n, rfl, ho, hc, hd⟩ := h1
  obtain ⟨a', o', t', n', rfl, ho', hc', hd'⟩ := h2
  refine PySem.W.kat_kind (vs := [.ref a, .ref a']) (fs := [.int x1 t, .int x2 t']) (T := .type "int") (.cons ho hc hd rfl (.cons ho' hc' hd' rfl .nil)) (by simp) (fun f hm => ?_) (by rfl) ?_
  · simp only [List.mem_cons, List.not_mem_nil, or_false] at hm
    rcases hm with rfl | rfl <;> exact PySem.W.Looks.now
  · have e : (Value.type "int" != Value.type "tuple") = true := by first | decide +kernel | rfl | decide
    rw [e]
    exact h
end
theorem two_out {α : Type} {lt : α → α → Bool} (O : Swo lt) {p q : α} {out : List α} (hs : Srtd lt out) (hb : Stb lt out [p, q]) : out = if lt q p then [q, p] else [p, q] := by
  cases e : lt q p with
  | true =>
    rw [if_pos rfl]
    refine stb_uniq O hs ?_ (hb.trans ?_)
    · refine List.pairwise_cons.mpr ⟨fun y hy => ?_, List.pairwise_singleton _ _⟩
      rw [List.mem_singleton.mp hy]
      exact O.asym _ _ e
    · have z : Stb lt ([q] ++ [p]) ([p] ++ [q]) := Stb.swap O fun a ha b hb => by
        rw [List.mem_singleton.mp ha, List.mem_singleton.mp hb]
        exact e
      exact ⟨z.perm.symm, fun x => (z.cls x).symm⟩
  | false =>
    rw [if_neg (by simp)]
    refine stb_uniq O hs ?_ hb
    refine List.pairwise_cons.mpr ⟨fun y hy => ?_, List.pairwise_singleton _ _⟩
    rw [List.mem_singleton.mp hy]
    exact e

section
variable {X : Cx} {pins : List (Addr × Obj)} {σ : L2.St} {H : Hp} {s : Shared} {A : Around} {E : Value → Shared → Prop}
/-- what a key is -/
def KeyV (X : Cx) (H : Hp) (u : Value) (k : Int × Bool) : Prop := ∃ t, u = .ref t ∧ SqT X.K H t [.int k.1, .bl k.2]
def Ext' (H H' : Hp) : Prop := ∀ b o, H b = some o → H' b = some o
theorem KeyV.ext {H H' : Hp} {u : Value} {k : Int × Bool} (h : KeyV X H u k) (e : Ext' H H') : KeyV X H' u k := by
  obtain ⟨t, h1, h2⟩ := h
  exact ⟨t, h1, DL.Ext.seqT e h2⟩
theorem KeyV.pb {u : Value} {k : Int × Bool} (I : Inv X pins σ H s) (h : KeyV X H u k) : IsPB s.heap u k.1 k.2 := by
  obtain ⟨t, rfl, h⟩ := h
  obtain ⟨its, r, ⟨o, ho, hc, n, hd⟩, _⟩ := I.tuple h
  cases r with
  | cons r1 r =>
    cases r with
    | cons r2 r =>
      cases r
      obtain ⟨tk, rfl⟩ := r1
      cases (show _ = Value.bool k.2 from r2)
      exact ⟨t, o, tk, n, rfl, ho, hc, hd⟩
theorem KeyV.inj {u : Value} {k k' : Int × Bool} (I : Inv X pins σ H s) (h : KeyV X H u k) (h' : KeyV X H u k') : k = k' := by
  obtain ⟨t, rfl, h⟩ := h
  obtain ⟨t', e, h'⟩ := h'
  cases e
  have z := I.tuple_inj h h'
  simp only [List.cons.injEq, V.int.injEq, V.bl.injEq, and_true] at z
  exact Prod.ext z.1 z.2
/-- the sort itself: keys q1, q2 of v1, v2 stand in the list at kS -/
theorem sk_end {a kS : Addr} {v1 v2 q1 q2 : Value} {k1 k2 : Int × Bool} {e e1 : Nat} {P : PySem.Fin → Shared → Prop} (I : Inv X pins σ H s) (fa : FpOk X pins H a) (fk : FpOk X pins H kS) (hka : kS ≠ a)
    (ha : s.heap.get? a = some (seqObj "list" #[] e1)) (hk : s.heap.get? kS = some (seqObj "list" #[q1, q2] e)) (h1 : KeyV X H q1 k1) (h2 : KeyV X H q2 k2)
    (h : ∀ s' n, Inv X pins σ H s' → s'.heap.get? a = some (seqObj "list" (if lexB (k2.1, b2i k2.2) (k1.1, b2i k1.2) then #[v2, v1] else #[v1, v2]) n) → P (.done (.ret .none)) s') :
    wpAny (model X.prog X.w) A (ksk_end a false #[v1, v2] e1 (.ref kS) #[q1, q2]) P E s := by
  unfold ksk_end
  try dsimp only
  rw [if_neg (by simp), if_neg (by simp)]
  refine wpAny_bind (pb_kind (h1.pb I) (h2.pb I) ?_)
  obtain ⟨k, e1', e2'⟩ : ∃ k : Value → Int × Bool, k q1 = k1 ∧ k q2 = k2 := by
    by_cases z : q1 = q2
    · subst z
      exact ⟨fun _ => k1, rfl, h1.inj I h2⟩
    · exact ⟨fun v => if v = q1 then k1 else k2, if_pos rfl, if_neg (Ne.symm z)⟩
  have hT : Cmp X.prog X.w A s (tuples' true) (fun p => p.1 ∈ [q1, q2]) (lt2 fun v u => lexB (kz k v) (kz k u)) := pb_cmp fun v hv => by
    simp only [List.mem_cons, List.not_mem_nil, or_false] at hv
    rcases hv with rfl | rfl
    · rw [e1']; exact h1.pb I
    · rw [e2']; exact h2.pb I
  have ez : (arrOf (SortSt.mk' (tuples' true) (#[q1, q2].zip #[v1, v2]) #[] 7 none)).toList = [(q1, v1), (q2, v2)] := by
    show (#[q1, q2].zip #[v1, v2]).toList = _
    simp
  refine wpAny_bind (wpAny_mono (wpS_sortO (st0 := SortSt.mk' (tuples' true) (#[q1, q2].zip #[v1, v2]) #[] 7 none)
    (Q := fun _ st' => Srtd (lt2 fun v u => lexB (kz k v) (kz k u)) (arrOf st').toList ∧ Stb (lt2 fun v u => lexB (kz k v) (kz k u)) (arrOf st').toList [(q1, v1), (q2, v2)] ∧ failedOf st' = none) (swo2 (swo_lex (kz k))) hT rfl (fun p hp => ?_) rfl rfl fun st' a1 a2 a3 => ⟨a1, by rw [ez] at a2; exact a2, a3⟩) ?_ fun _ _ e => e)
  · have hp' : p ∈ [(q1, v1), (q2, v2)] := by
      rw [ez] at hp
      exact hp
    simp only [List.mem_cons, List.not_mem_nil, or_false] at hp' ⊢
    rcases hp' with rfl | rfl
    · exact .inl rfl
    · exact .inr rfl
  rintro ⟨⟨⟩, st'⟩ s' ⟨rfl, hs, hb, hf⟩
  try dsimp only
  have out := two_out (swo2 (swo_lex (kz k))) hs hb
  have out2 : (arrOf st').map (·.2) = if lexB (k2.1, b2i k2.2) (k1.1, b2i k1.2) then #[v2, v1] else #[v1, v2] := by
    have z : ((arrOf st').map (·.2)).toList = (if lexB (k2.1, b2i k2.2) (k1.1, b2i k1.2) then #[v2, v1] else #[v1, v2] : Array Value).toList := by
      rw [Array.toList_map, out]
      show List.map _ (if lexB (kz k q2) (kz k q1) = true then _ else _) = _
      rw [show kz k q2 = (k2.1, b2i k2.2) by unfold kz; rw [e2'], show kz k q1 = (k1.1, b2i k1.2) by unfold kz; rw [e1']]
      split <;> rfl
    rw [← Array.toArray_toList (xs := (arrOf st').map (·.2)), z]
  unfold ksk_tail
  try dsimp only
  have na1 : (s'.heap.update kS (Obj.mapSeq fun _ => (#[] : Array Value))).get? a = some (seqObj "list" #[] e1) := (Heap.get?_update_ne _ _ _ _ hka.symm).trans ha
  refine wpAny_bind (listUpdate_at hk rfl ?_ (by rw [sizeLine_eq]; simp) (Nat.zero_le _))
  refine wpAny_bind (wpAny_letGo ?_)
  refine wpAny_bind (seqEpoch_at na1 rfl ?_)
  have hsz : (if lexB (k2.1, b2i k2.2) (k1.1, b2i k1.2) then #[v2, v1] else #[v1, v2] : Array Value).size ≤ sizeLine + 1 := by
    rw [sizeLine_eq]
    split <;> simp
  simp only [Bool.false_eq_true, if_false]
  rw [out2]
  refine wpAny_bind (listUpdate_at na1 rfl ?_ (Nat.zero_le _) hsz)
  rw [hf]
  simp only [bne_self_eq_false, Bool.false_eq_true, if_false]
  obtain ⟨n, hn⟩ : ∃ n, ((s'.heap.update kS (Obj.mapSeq fun _ => (#[] : Array Value))).update a (Obj.mapSeq fun _ => if lexB (k2.1, b2i k2.2) (k1.1, b2i k1.2) then #[v2, v1] else #[v1, v2])).get? a = some (seqObj "list" (if lexB (k2.1, b2i k2.2) (k1.1, b2i k1.2) then #[v2, v1] else #[v1, v2]) n) :=
    ⟨_, get?_update_seq na1 fun _ => if lexB (k2.1, b2i k2.2) (k1.1, b2i k1.2) then #[v2, v1] else #[v1, v2]⟩
  refine wpAny_pure (h _ n (Inv.turnedL (t' := s'.toks) (ch := [kS, a]) I (fun b o hb q => ?_) fun b hb => ?_) hn)
  · simp only [List.mem_cons, List.not_mem_nil, or_false, not_or] at hb
    exact (Heap.get?_update_ne _ _ _ _ hb.2).trans ((Heap.get?_update_ne _ _ _ _ hb.1).trans q)
  · simp only [List.mem_cons, List.not_mem_nil, or_false] at hb
    rcases hb with rfl | rfl
    · exact fk
    · exact fa
/-- what a pinned thing must be -/
def PinB (X : Cx) (H : Hp) (b : Addr) : Prop := H b = none ∧ b ≠ X.env.locals ∧ b ∉ X.fs
theorem pinB_of {pl : List (Addr × Obj)} {H1 : Hp} {s1 : Shared} {b : Addr} {o : Obj} (I : Inv X (pins ++ pl) σ H1 s1) (m : (b, o) ∈ pl) : PinB X H1 b ∧ s1.heap.get? b = some o := by
  obtain ⟨z1, z2, z3, z4, _⟩ := I.pin (b, o) (List.mem_append_right _ (List.mem_append_right _ m))
  exact ⟨⟨z2, z3, z4⟩, z1⟩
theorem pin3 {fp : List Addr} (I : Inv X pins σ H s) (hf : ∀ b ∈ fp, PinB X H b) (ho : ∀ b ∈ fp, ∃ o, s.heap.get? b = some o ∧ ∀ v, o.data ≠ .cell v) : Inv X (pins ++ pinsAt fp s.heap) σ H s :=
  I.pins_of fun p hp => (List.mem_append.mp hp).elim (fun z => I.pin p (List.mem_append_right _ z)) fun z => by
    obtain ⟨hb, e⟩ := of_pinsAt z
    obtain ⟨f0, f1, f2⟩ := hf p.1 hb
    obtain ⟨o, e', d⟩ := ho p.1 hb
    rw [e] at e'
    cases e'
    exact ⟨e, f0, f1, f2, d⟩
theorem FpOk.pb {b : Addr} (f : FpOk X pins H b) : PinB X H b := ⟨f.1, f.2.1, f.2.2.1⟩
theorem fp_of {pl : List (Addr × Obj)} {H1 : Hp} {s1 : Shared} {b : Addr} {o : Obj} (f : FpOk X pins H b) (I : Inv X (pins ++ pl) σ H1 s1) (m : (b, o) ∈ pl) : FpOk X pins H1 b ∧ s1.heap.get? b = some o := by
  obtain ⟨z1, z2, z3, z4, _⟩ := I.pin (b, o) (List.mem_append_right _ (List.mem_append_right _ m))
  exact ⟨⟨z2, z3, z4, f.2.2.2⟩, z1⟩
/-- the loop over the items, and what follows -/
theorem sk_rest {T : Hp → Hp → Prop} {G : Hp} {a kS f : Addr} {fo : Obj} {v1 v2 : Value} {k1 k2 : Int × Bool} {e e1 : Nat} {P : PySem.Fin → Shared → Prop} (I : Inv X pins σ H s) (fa : FpOk X pins H a) (fk : FpOk X pins H kS) (ff : PinB X H f) (hka : kS ≠ a) (hkf : kS ≠ f)
    (ha : s.heap.get? a = some (seqObj "list" #[] e1)) (hk : s.heap.get? kS = some (seqObj "list" #[] e)) (hf : s.heap.get? f = some fo) (hc : ∀ v, fo.data ≠ .cell v)
    (hT : ∀ G H, T G H → Ext' G H) (t0 : T G H)
    (turn : ∀ v k, (v, k) ∈ [(v1, k1), (v2, k2)] → ∀ pl G1 H1 s1, Inv X (pins ++ pl) σ H1 s1 → T G1 H1 → Ext' G G1 → (f, fo) ∈ pl → wpAny (model X.prog X.w) A (call (.ref f) [v]) (fun r s2 => ∃ G2 H2, Inv X (pins ++ pl) σ H2 s2 ∧ T G2 H2 ∧ Ext' G1 G2 ∧ KeyV X G2 r k) (fun _ _ => False) s1)
    (h : ∀ G' H' s' n, Inv X pins σ H' s' → T G' H' → Ext' G G' → s'.heap.get? a = some (seqObj "list" (if lexB (k2.1, b2i k2.2) (k1.1, b2i k1.2) then #[v2, v1] else #[v1, v2]) n) → FpOk X pins H' a → P (.done (.ret .none)) s') :
    wpAny (model X.prog X.w) A (ksk_rest a (.ref f) false #[v1, v2] e1 (.ref kS)) P E s := by
  unfold ksk_rest
  refine wpAny_bind (wpAny_rule ?_)
  rw [← Array.forIn_toList]
  refine wpAny_bind (ksk_fold (fun i s' => ∃ G1 H1 ks e', Inv X pins σ H1 s' ∧ T G1 H1 ∧ Ext' G G1 ∧ FpOk X pins H1 a ∧ FpOk X pins H1 kS ∧ PinB X H1 f ∧ s'.heap.get? a = some (seqObj "list" #[] e1) ∧ s'.heap.get? kS = some (seqObj "list" ks e') ∧ s'.heap.get? f = some fo ∧
    ks.size = i ∧ ∀ j k, j < i → [k1, k2][j]? = some k → ∃ q, ks[j]? = some q ∧ KeyV X G1 q k) [v1, v2] 0 s ⟨G, H, #[], e, I, t0, fun _ _ z => z, fa, fk, ff, ha, hk, hf, rfl, fun j k z => absurd z (Nat.not_lt_zero _)⟩ ?step ?done)
  case step =>
    rintro j x s' hx ⟨G1, H1, ks, e', I1, t1, x1, fa1, fk1, ff1, ha1, hk1, hf1, hz, hq⟩
    simp only [Nat.zero_add] at hz hq ⊢
    have hj : j < 2 := (List.getElem?_eq_some_iff.mp hx).1
    obtain ⟨k, hkj⟩ : ∃ k, [k1, k2][j]? = some k := ⟨_, List.getElem?_eq_getElem (by simpa using hj)⟩
    have hm : (x, k) ∈ [(v1, k1), (v2, k2)] := by
      match j, hj, hx, hkj with
      | 0, _, hx, hkj => cases hx; cases hkj; simp
      | 1, _, hx, hkj => cases hx; cases hkj; simp
    have I2 := pin3 (fp := [f, a, kS]) I1 (fun b hb => by
      simp only [List.mem_cons, List.not_mem_nil, or_false] at hb
      rcases hb with rfl | rfl | rfl
      · exact ff1
      · exact FpOk.pb fa1
      · exact FpOk.pb fk1) (fun b hb => by
      simp only [List.mem_cons, List.not_mem_nil, or_false] at hb
      rcases hb with rfl | rfl | rfl
      · exact ⟨_, hf1, hc⟩
      · exact ⟨_, ha1, fun v z => by cases z⟩
      · exact ⟨_, hk1, fun v z => by cases z⟩)
    refine wpAny_bind (wpAny_attempt (wpAny_mono (turn x k hm _ G1 H1 s' I2 t1 x1 (mem_pinsAt (by simp) hf1)) (fun r s2 he => ?_) fun _ _ hF => hF.elim))
    obtain ⟨G2, H2, I3, t2, x2, kq⟩ := he
    obtain ⟨fa2, ha2⟩ := fp_of fa1 I3 (mem_pinsAt (by simp) ha1)
    obtain ⟨fk2, hk2⟩ := fp_of fk1 I3 (mem_pinsAt (by simp) hk1)
    obtain ⟨ff2, hf2⟩ := pinB_of I3 (mem_pinsAt (by simp) hf1)
    try dsimp only
    obtain ⟨c2, hc2⟩ : ∃ c2, (s2.heap.update kS (Obj.mapSeq (·.push r))).get? kS = some (seqObj "list" (ks.push r) c2) := ⟨_, get?_update_seq hk2 (·.push r)⟩
    refine wpAny_bind (listUpdate_at hk2 rfl ?_ (by rw [sizeLine_eq]; omega) (Nat.le_trans (Nat.le_of_eq (Array.size_push ..)) (by rw [sizeLine_eq]; omega)))
    refine wpAny_pure ⟨rfl, G2, H2, ks.push r, c2, Inv.turnedL (t' := s2.toks) (ch := [kS]) I3.unpinned (fun b o hb q => ?_) (fun b hb => ?_), t2, fun b o z => x2 b o (x1 b o z), fa2, fk2, ff2, (Heap.get?_update_ne _ _ _ _ hka.symm).trans ha2, hc2, (Heap.get?_update_ne _ _ _ _ hkf.symm).trans hf2, by rw [Array.size_push, hz], fun i k' hi hk' => ?_⟩
    · exact (Heap.get?_update_ne _ _ _ _ (by simpa using hb)).trans q
    · rw [List.mem_singleton.mp hb]
      exact fk2
    · by_cases z : i = j
      · subst z
        rw [hkj] at hk'
        cases hk'
        exact ⟨r, by rw [← hz, Array.getElem?_push_size], kq⟩
      · obtain ⟨q, q1, q2⟩ := hq i k' (by omega) hk'
        exact ⟨q, by rw [Array.getElem?_push_lt (by omega)]; rw [Array.getElem?_eq_getElem (by omega)] at q1; exact q1, q2.ext x2⟩
  case done =>
    rintro s' ⟨G1, H1, ks, e', I1, t1, x1, fa1, fk1, ff1, ha1, hk1, hf1, hz, hq⟩
    simp only [List.length_cons, List.length_nil, Nat.zero_add] at hz hq
    obtain ⟨q1, a1, b1⟩ := hq 0 k1 (by decide) rfl
    obtain ⟨q2, a2, b2⟩ := hq 1 k2 (by decide) rfl
    obtain rfl : ks = #[q1, q2] := by
      match ks, hz, a1, a2 with
      | ⟨[x, y]⟩, _, a1, a2 =>
        simp at a1 a2
        rw [a1, a2]
    try dsimp only
    refine wpAny_bind (listItems_at hk1 rfl ?_)
    exact sk_end I1 fa1 fk1 hka ha1 hk1 (b1.ext (hT _ _ t1)) (b2.ext (hT _ _ t1)) fun s2 n I2 z => h G1 H1 s2 n I2 t1 x1 z fa1
theorem sk_tree {T : Hp → Hp → Prop} {G : Hp} {a f : Addr} {fo : Obj} {v1 v2 : Value} {k1 k2 : Int × Bool} {n : Nat} {P : PySem.Fin → Shared → Prop} (I : Inv X pins σ H s) (fa : FpOk X pins H a) (ff : PinB X H f) (haf : f ≠ a)
    (ha : s.heap.get? a = some (seqObj "list" #[v1, v2] n)) (hf : s.heap.get? f = some fo) (hc : ∀ v, fo.data ≠ .cell v)
    (hT : ∀ G H, T G H → Ext' G H) (t0 : T G H)
    (turn : ∀ v k, (v, k) ∈ [(v1, k1), (v2, k2)] → ∀ pl G1 H1 s1, Inv X (pins ++ pl) σ H1 s1 → T G1 H1 → Ext' G G1 → (f, fo) ∈ pl → wpAny (model X.prog X.w) A (call (.ref f) [v]) (fun r s2 => ∃ G2 H2, Inv X (pins ++ pl) σ H2 s2 ∧ T G2 H2 ∧ Ext' G1 G2 ∧ KeyV X G2 r k) (fun _ _ => False) s1)
    (h : ∀ G' H' s' n, Inv X pins σ H' s' → T G' H' → Ext' G G' → s'.heap.get? a = some (seqObj "list" (if lexB (k2.1, b2i k2.2) (k1.1, b2i k1.2) then #[v2, v1] else #[v1, v2]) n) → FpOk X pins H' a → P (.done (.ret .none)) s') :
    wpAny (model X.prog X.w) A (ksk_tree a (.ref f) false) P E s := by
  have ha' : a < s.heap.objs.size := Heap.lt_size ha
  have hf' : f < s.heap.objs.size := Heap.lt_size hf
  obtain ⟨e1, ho1⟩ : ∃ e1, (s.heap.update a (Obj.mapSeq fun _ => (#[] : Array Value))).get? a = some (seqObj "list" #[] e1) := ⟨_, get?_update_seq ha fun _ => #[]⟩
  have hkS : ((s.heap.update a (Obj.mapSeq fun _ => (#[] : Array Value))).push (seqObj "tuple" #[v1, v2] 0)).objs.size = s.heap.objs.size + 1 := by rw [size_push', Heap.size_update]
  have keep : ∀ b o, b ≠ a → s.heap.get? b = some o → (((s.heap.update a (Obj.mapSeq fun _ => (#[] : Array Value))).push (seqObj "tuple" #[v1, v2] 0)).push (seqObj "list" #[] 0)).get? b = some o := fun b o hb q =>
    Heap.get?_push_of_some _ (Heap.get?_push_of_some _ ((Heap.get?_update_ne _ _ _ _ hb).trans q))
  unfold ksk_tree
  refine wpAny_bind (listItems_at ha rfl ?_)
  refine wpAny_bind (listUpdate_at ha rfl ?_ (by rw [sizeLine_eq]; simp) (Nat.zero_le _))
  refine wpAny_bind (seqEpoch_at ho1 rfl ?_)
  refine wpAny_bind (wpAny_newTuple ?_ (by show 2 ≤ _; rw [sizeLine_eq]; omega))
  refine wpAny_bind (wpAny_newList ?_ (Nat.zero_le _))
  refine wpAny_holding ?_
  have I1 : Inv X pins σ H { s with heap := ((s.heap.update a (Obj.mapSeq fun _ => (#[] : Array Value))).push (seqObj "tuple" #[v1, v2] 0)).push (seqObj "list" #[] 0) } :=
    Inv.turnedL (t' := s.toks) (ch := [a]) I (fun b o hb q => keep b o (by simpa using hb) q) fun b hb => by
      rw [List.mem_singleton.mp hb]
      exact fa
  have fk : FpOk X pins H (s.heap.objs.size + 1) := I.fpOk (Nat.le_succ _) (I.hok.fresh (Nat.le_succ _))
  refine sk_rest (kS := ((s.heap.update a (Obj.mapSeq fun _ => (#[] : Array Value))).push (seqObj "tuple" #[v1, v2] 0)).objs.size) (e := 0) I1 fa (by rw [hkS]; exact fk) ff (by rw [hkS]; exact Nat.ne_of_gt (Nat.lt_succ_of_lt ha')) (by rw [hkS]; exact Nat.ne_of_gt (Nat.lt_succ_of_lt hf')) (Heap.get?_push_of_some _ (Heap.get?_push_of_some _ ho1)) (Heap.get?_push_size _ rfl) (keep f _ haf hf) hc hT t0 turn h
/-- sorted(l, key = f) -/
theorem sk_sorted {T : Hp → Hp → Prop} {G : Hp} {l f : Addr} {fo : Obj} {v1 v2 : Value} {k1 k2 : Int × Bool} {E : Value → Shared → Prop} {Q : Value → Shared → Prop} (I : Inv X pins σ H s) (hl : s.heap.IsList l #[v1, v2]) (ff : PinB X H f) (hf : s.heap.get? f = some fo) (hc : ∀ v, fo.data ≠ .cell v)
    (hT : ∀ G H, T G H → Ext' G H) (t0 : T G H)
    (turn : ∀ v k, (v, k) ∈ [(v1, k1), (v2, k2)] → ∀ pl G1 H1 s1, Inv X (pins ++ pl) σ H1 s1 → T G1 H1 → Ext' G G1 → (f, fo) ∈ pl → wpAny (model X.prog X.w) A.in1.in1 (call (.ref f) [v]) (fun r s2 => ∃ G2 H2, Inv X (pins ++ pl) σ H2 s2 ∧ T G2 H2 ∧ Ext' G1 G2 ∧ KeyV X G2 r k) (fun _ _ => False) s1)
    (h : ∀ d G' H' s' n, Inv X pins σ H' s' → T G' H' → Ext' G G' → s'.heap.get? d = some (seqObj "list" (if lexB (k2.1, b2i k2.2) (k1.1, b2i k1.2) then #[v2, v1] else #[v1, v2]) n) → FpOk X pins H' d → Q (.ref d) s') :
    wpAny (model X.prog X.w) A (call (.builtin "sorted") [.ref l] [(Str.ofString "key", .ref f)]) Q E s := by
  refine call_function_entry_kw kind_sorted plain_sorted entry_sorted (ksk_s1 _ _) ?_
  unfold Builtin.«sorted»
  refine wpAny_bind (m := checkCount "sorted" 1 1 _) (wpAny_pure ?_)
  refine wpAny_bind (collect_list (vs := [v1, v2]) hl ?_ (by rw [sizeLine_eq]; simp))
  refine wpAny_bind (wpAny_newList ?_ (by rw [sizeLine_eq]; simp))
  have hsz : ((s.heap.push (seqObj "list" #[] 0)).update s.heap.objs.size (Obj.mapSeq (· ++ #[v1, v2]))).objs.size = s.heap.objs.size + 1 := by
    rw [Heap.size_update, size_push']
  have hoL : (((s.heap.push (seqObj "list" #[] 0)).update s.heap.objs.size (Obj.mapSeq (· ++ #[v1, v2]))).push (seqObj "list" #[v1, v2] 0)).get? (s.heap.objs.size + 1) = some (seqObj "list" #[v1, v2] 0) := by
    rw [← hsz]; exact Heap.get?_push_size _ rfl
  have keep : ∀ b o, s.heap.get? b = some o → (((s.heap.push (seqObj "list" #[] 0)).update s.heap.objs.size (Obj.mapSeq (· ++ #[v1, v2]))).push (seqObj "list" #[v1, v2] 0)).get? b = some o := fun b o q => by
    have hlt : b < s.heap.objs.size := Heap.lt_size q
    rw [Heap.get?_push_ne _ _ _ (by rw [hsz]; exact Nat.ne_of_lt (Nat.lt_succ_of_lt hlt)), Heap.get?_update_ne _ _ _ _ (Nat.ne_of_lt hlt), Heap.get?_push_ne _ _ _ (Nat.ne_of_lt hlt)]
    exact q
  show wpAny _ _ _ _ _ { s with heap := ((s.heap.push (seqObj "list" #[] 0)).update s.heap.objs.size (Obj.mapSeq (· ++ #[v1, v2]))).push (seqObj "list" #[v1, v2] 0) }
  rw [hsz]
  refine wpAny_bind (wpAny_holding (wpAny_call_entry_kw slot_list_sort ⟨_, hoL, rfl⟩ entry_list_sort ?body (ksk_l1 _ _)))
  case body =>
    show wpAny (model X.prog X.w) A.in1.in1 (Builtin.«list.sort» ⟨[.ref (s.heap.objs.size + 1)], [(Str.ofString "key", .ref f)]⟩) _ _ _
    rw [ksk_t1]
    have I1 := Inv.kept (t' := s.toks) I keep
    refine sk_tree I1 (I.fpOk (Nat.le_succ _) (I.hok.fresh (Nat.le_succ _))) ff (Nat.ne_of_lt (Nat.lt_succ_of_lt (Heap.lt_size hf))) hoL (keep _ _ hf) hc hT t0 turn fun G' H' s' n I2 t2 x2 hd fd => ⟨_, rfl, ?_⟩
    exact wpAny_pure ⟨_, rfl, h _ G' H' s' n I2 t2 x2 hd fd⟩
end
end SKy

namespace SKy
open PySem PySem.Spec PyProof.Rows L2 SrtO
theorem clo_nil {cells : List (Str × Addr)} : ∀ {l : List (Str × NameKind)} {acc : List (Str × Addr)}, (∀ y ∈ l, y.2 ≠ .free) → cloFrom cells l acc = acc
  | [], _, _ => rfl
  | (n, k) :: r, acc, h => by
    unfold cloFrom
    have hk : (k == NameKind.free) = false := by
      have := h (n, k) List.mem_cons_self
      cases k <;> first | rfl | exact absurd rfl this
    rw [hk, if_neg (by simp)]
    exact clo_nil fun y hy => h y (List.mem_cons_of_mem _ hy)
section
variable {X : Cx} {pins : List (Addr × Obj)} {σ : L2.St} {H : Hp} {s : Shared}
/-- a lambda of one name, called -/
theorem lam1 {A : Around} {k : Nat} {f c' : Addr} {q y : Str} {params : Arguments} {body : Expr} {scope : Scope} {pm ctv v : Value} {x : V} {te : TE} {Q : VK} {E' : Value → Shared → Prop} (hr : Room (k + 1) A) (hfm : A.frames = X.A.frames) (I : Inv X pins σ H s)
    (hf : s.heap.get? f = some (PySem.W.kla_obj "<lambda>" q params body scope [] pm c' ctv)) (hco : H c' = some (LamX.CodeO c' q)) (S : FnScope [y] [y] scope)
    (hbind : bindArgs (PySem.W.kla_fn "<lambda>" q params body scope [] pm (.ref c') ctv) ⟨[v], []⟩ = pure [(y, v)]) (r : RelV x v)
    (hbody : PE (cxOf (L2.CX X.prog X.w) X.prog X.w X.K X.mg X.base [y] q scope f (.ref c') A X.stack s H OB.noE) body te) (ht : te (L2.start [y] [x]) H Q) :
    wpAny (model X.prog X.w) A (call (.ref f) [v]) (EP X pins σ Q) E' s := by
  have e1 := I.env0
  have e0 : Env0 X.prog X.w X.K X.mg X.base A X.stack s H := ⟨hfm.trans e1.frames, e1.mod, e1.bs, e1.bsz, e1.funs, e1.frf, e1.hok, e1.bare⟩
  have lim : s.heap.NoLimit := I.nolimit
  obtain ⟨⟨oc, vs, t, hoc, hdc, hvc⟩, _, _⟩ := I.hok c' _ hco
  have hkind : ∀ z ∈ [(y, v)], scope.names.lookup z.1 = some .local ∨ (scope.names.lookup z.1 = some .cell ∧ ((cellsFrom (s.heap.objs.size + 1) scope.names []).lookup z.1).isSome = true) := fun z hz => by
    rw [List.mem_singleton.mp hz]
    rcases S.par y List.mem_cons_self with q | q
    · exact .inl q
    · exact .inr ⟨q, PySem.W.cellsFrom_some _ _ _ (.inl q)⟩
  have rc : codeAny (model X.prog X.w) A (.call (.ref f) ⟨[v], []⟩) (CR (L2.CX X.prog X.w) X.stack X.prog X.w H s Q OB.noE) s := by
    refine PySem.W.kla_callFunE hr.depth hf rfl S.co S.gen rfl ⟨c', oc, vs, t, rfl, hoc, hdc, hvc⟩ ?_
    rw [hbind]
    refine wpAny_pure (wpAny_newFunctionEnv_cells S.kind hkind fun env he s1 x1 => ?_)
    subst he
    refine ⟨lim.keeps x1.toInCall.keep, ?_⟩
    have J : Inv (cxOf (L2.CX X.prog X.w) X.prog X.w X.K X.mg X.base [y] q scope f (.ref c') A X.stack s H OB.noE) [] (L2.start [y] [x]) H s1 := inv_start (ps := [y]) (us := [v]) S hr.hd e0 rfl (.cons r .nil) x1
    refine PySem.W.kla_codeExpr (wpAny_mono (hbody.run [] _ _ H Q J ht) (fun u s' hq => ?_) fun e s' hq => hq)
    obtain ⟨w', H', J', rv, q⟩ := hq
    exact ⟨w', H', J'.os, J'.bare, J'.base, J'.hok, rv, q⟩
  refine wpAny_call (codeAny_mono rc fun r s' hq => ?_)
  cases r with
  | error e =>
    obtain ⟨_, _, _, _, _, _, _, _, _, _, _, _, h⟩ := hq
    exact h.elim
  | ok fl =>
    cases fl with
    | ret u => exact I.after hq
    | next => exact False.elim hq
    | brk => exact False.elim hq
    | cont => exact False.elim hq
end
end SKy
namespace DL
open PySem PySem.Spec PyProof.Rows L2 SrtO
/-- the key of an item -/
def keyD (k : Int × Bool) : D := .tup [.int k.1, .bl k.2]
/-- does the second go ahead -/
def ahead (k2 k1 : Int × Bool) : Bool := lexB (k2.1, b2i k2.2) (k1.1, b2i k1.2)
/-- sorted(e, key = lambda y: b), of two -/
def dSortK (fe fb : DTE) : DTE := fun δ n q e => fe δ n (fun x n1 => ∃ d1 d2 k1 k2, x = .lst [d1, d2] ∧ (∀ q' : D → NS → Prop, q' (keyD k1) n1 → fb [some d1] n1 q' noX) ∧ (∀ q' : D → NS → Prop, q' (keyD k2) n1 → fb [some d2] n1 q' noX) ∧ q (.lst (if ahead k2 k1 then [d2, d1] else [d1, d2])) n1) e
section
variable {X : Cx} {M : LK} {W : WX}
theorem boot_sorted : bootBuiltins "sorted" = some (.builtin "sorted") := by decide +kernel
theorem dp_sortK {e : Expr} {fe fb : DTE} {p pos lpos kpos : Pos} {params : Arguments} {body : Expr} {scope : Scope} {y : Str} {c P : Addr} {k : Nat} (hK : X.K = M.L.K) (ha : PE X e (liftE M W fe)) (hr : Room (k + 3) X.A)
    (TB : LamX.TabB X.base X.mg c P) (hcode : X.env.code = .ref c) (hmT : (P, X.env.qual ++ "<lambda>") ∈ M.L.T) (hu : ∀ p ∈ M.L.T, p.1 = P → p.2 = X.env.qual ++ "<lambda>") (hdef : defaultsOf params X.env = ([], [])) (S : FnScope [y] [y] scope)
    (hbind : ∀ (q : Str) (cl : List (Str × Addr)) (pm cv ctv v : Value), bindArgs (PySem.W.kla_fn "<lambda>" q params body scope cl pm cv ctv) ⟨[v], []⟩ = pure [(y, v)])
    (hbody : ∀ (A : Around) (outer : List Env) (s : Shared) (H : Hp) (f c' : Addr), PE (cxOf (L2.CX X.prog X.w) X.prog X.w X.K X.mg X.base [y] (X.env.qual ++ "<lambda>") scope f (.ref c') A outer s H OB.noE) body (liftE M W0 fb))
    (hst : frs X.stack = X.env.locals :: X.fs) (hg : Gl X "sorted") (hm : X.mg "sorted" = none) (he : starEach [e] X.env = [(false, eval e X.env)] := by exact starEach_cons rfl) :
    PE X (.Call (.Name "sorted" p) [e] [⟨some "key", .Lambda params body scope lpos, kpos⟩] pos) (liftE M W (dSortK fe fb)) := by
  refine ⟨fun pins s σ H Q I h => ?_⟩
  obtain ⟨pn, G, n, δ, q, ex, R, h2, hQ, hX⟩ := h
  refine wpAny_Call_Name_kw (ld_blt I hg hm boot_sorted ?_)
  have ha2 : PA X [e] (tCons (liftE M W fe) tNil) := pa_cons ha pa_nil he
  refine PyProof.Rows.callWith_kw (thn (ha2.run pos pins s σ H (fun vs H1 => ∃ G1 n1 v d1 d2 k1 k2, Rep M pn G1 n1 σ δ H1 ∧ Adv pn G H G1 H1 ∧ vs = [v] ∧ Is M G1 v (.lst [d1, d2]) ∧ (∀ q' : D → NS → Prop, q' (keyD k1) n1 → fb [some d1] n1 q' noX) ∧ (∀ q' : D → NS → Prop, q' (keyD k2) n1 → fb [some d2] n1 q' noX) ∧ q (.lst (if ahead k2 k1 then [d2, d1] else [d1, d2])) n1) I ?_) fun us s1 ⟨vs, H1, I1, r1, q1⟩ => ?_) (by rw [he]; rfl) (by rw [he]; rfl) rfl rfl
  · refine ⟨pn, G, n, δ, _, ex, R, h2, fun G1 v d n1 H1 A1 R1 i1 h1 => ?_, hX⟩
    obtain ⟨d1, d2, k1, k2, rfl, b1, b2, h1⟩ := h1
    exact ⟨G1, n1, v, d1, d2, k1, k2, R1, A1, rfl, i1, b1, b2, h1⟩
  obtain ⟨G1, n1, v, d1, d2, k1, k2, R1, A1, rfl, i1, b1, b2, h1⟩ := q1
  simp only [Is] at i1
  obtain ⟨l, ws, rfl, gl, iw⟩ := i1
  obtain ⟨u, rfl, ru⟩ : ∃ u, us = [u] ∧ RelV (V.ref l) u := by
    cases r1 with
    | cons ru r1 =>
      cases r1
      exact ⟨_, rfl, ru⟩
  obtain rfl : u = Value.ref l := ru
  obtain ⟨w1, w2, rfl, iw1, iw2⟩ : ∃ w1 w2, ws = [w1, w2] ∧ Is M G1 w1 d1 ∧ Is M G1 w2 d2 := by
    match ws, iw with
    | [w1, w2], iw =>
      simp only [DL.IsL] at iw
      exact ⟨w1, w2, rfl, iw.1, iw.2.1⟩
    | [], iw => simp only [DL.IsL] at iw
    | [_], iw => simp only [DL.IsL, and_false] at iw
    | _ :: _ :: _ :: _, iw => simp only [DL.IsL, and_false] at iw
  show wpAny _ _ (evalAll [do let v ← eval (.Lambda params body scope lpos) X.env; standAt pos; pure v]) _ _ s1
  refine wpAny_evalAll_cons (wpAny_bind (LamX.lam_make2 I1 TB hcode hmT hu R1.tab hdef (fun z hz zf => absurd zf (S.nofree z hz)) fun f c' pm ctv H2 s2 I2 eN T2 hf hfn hfr hco => wpAny_bind (wpAny_standAt (wpAny_pure (wpAny_evalAll_nil ?_)))))
  rw [SKy.clo_nil S.nofree] at hf
  obtain ⟨R2, A2⟩ := R1.grow eN T2
  obtain ⟨G3, R3, A3, hco3⟩ := R2.know hco
  have A23 := A2.trans A3
  obtain ⟨_, its, nl, rI, hl⟩ := I2.hok l _ (R3.ex _ _ (A23.ge _ _ gl))
  obtain ⟨v1, v2, rfl, q1, q2⟩ : ∃ v1 v2, its = [v1, v2] ∧ RelV w1 v1 ∧ RelV w2 v2 := by
    cases rI with
    | cons q1 rI =>
      cases rI with
      | cons q2 rI =>
        cases rI
        exact ⟨_, _, rfl, q1, q2⟩
  have pb : SKy.PinB X H2 f := ⟨hfn, fun z => hfr (by rw [hst, z]; exact List.mem_cons_self), fun z => hfr (by rw [hst]; exact List.mem_cons_of_mem _ z)⟩
  have hr3 : Room (k + 1) X.A.in1.in1 := (hr.in1 : Room (k + 2) X.A.in1).in1
  refine SKy.sk_sorted (T := fun G H => Rep M pn G n1 σ δ H) (G := G3) (k1 := k1) (k2 := k2) I2 ⟨_, hl, rfl, _, rfl⟩ pb hf (fun v z => by cases z) (fun G H r => r.ex) R3 (fun v k0 hm pl G4 H4 s4 I4 R4 x4 hp => ?_) fun d G4 H4 s4 n4 I4 R4 x4 hd fd => ?_
  · obtain ⟨w, dd, rw_, iw, bd⟩ : ∃ w dd, RelV w v ∧ Is M G1 w dd ∧ ∀ q' : D → NS → Prop, q' (keyD k0) n1 → fb [some dd] n1 q' noX := by
      simp only [List.mem_cons, List.not_mem_nil, or_false, Prod.mk.injEq] at hm
      rcases hm with ⟨rfl, rfl⟩ | ⟨rfl, rfl⟩
      · exact ⟨w1, d1, q1, iw1, b1⟩
      · exact ⟨w2, d2, q2, iw2, b2⟩
    have hf4 := (SKy.pinB_of I4 hp).2
    have AX : Adv pn G1 H1 G4 H4 := ⟨A23.ge.trans x4⟩
    refine wpAny_mono (SKy.lam1 (x := w) (E' := fun _ _ => False) hr3 rfl I4 hf4 (R4.ex _ _ (x4 _ _ hco3)) S (hbind _ _ _ _ _ _) rw_ (hbody _ _ _ _ _ _) (Q := fun r H5 => ∃ G5, Rep M pn G5 n1 σ δ H5 ∧ SKy.Ext' G4 G5 ∧ ∃ t, r = .ref t ∧ SqT X.K G5 t [.int k0.1, .bl k0.2]) ?_) (fun r s5 hq => ?_) fun _ _ z => z
    · have iL : DL.IsL M G4 [w] [dd] := by
        simp only [DL.IsL]
        exact ⟨Is.up AX.ge _ _ iw, trivial⟩
      have RS := (R4.bare).start (N := [y]) iL
      refine ⟨pn, G4, n1, _, fun d n' => d = keyD k0 ∧ n' = n1, noX, RS, bd _ ⟨rfl, rfl⟩, fun G5 v d n' H5 A5 R5 i5 h5 => ?_, XEnd.no noX_no⟩
      obtain ⟨rfl, rfl⟩ := h5
      unfold keyD at i5
      simp only [Is] at i5
      obtain ⟨t, vs, rfl, gt, iv⟩ := i5
      obtain rfl : vs = [.int k0.1, .bl k0.2] := by
        match vs, iv with
        | [a, b], iv =>
          simp only [DL.IsL, Is] at iv
          rw [iv.1, iv.2.1]
        | [], iv => simp only [DL.IsL] at iv
        | [_], iv => simp only [DL.IsL, and_false] at iv
        | _ :: _ :: _ :: _, iv => simp only [DL.IsL, and_false] at iv
      exact ⟨G5, (R4.back R5.bare A5), A5.ge, t, rfl, by rw [hK]; exact gt⟩
    · obtain ⟨r', H5, I5, rr, G5, R5, x5, t, rfl, ht⟩ := hq
      exact ⟨G5, H5, I5, R5, x5, t, rr, ht⟩
  · have e2 : (if lexB (k2.1, b2i k2.2) (k1.1, b2i k1.2) = true then #[v2, v1] else #[v1, v2]).toList = (if ahead k2 k1 then [v2, v1] else [v1, v2]) := by
      unfold ahead
      split <;> rfl
    have I5 := Inv.take (t' := s4.toks) (o := .lst (if ahead k2 k1 then [w2, w1] else [w1, w2])) I4 (fun b ob _ q => q) fd (by
      refine ⟨by split <;> (rw [sizeLine_eq]; simp), (if ahead k2 k1 then [v2, v1] else [v1, v2]), n4, ?_, ?_⟩
      · split
        · exact .cons q2 (.cons q1 .nil)
        · exact .cons q1 (.cons q2 .nil)
      · rw [hd, ← e2])
    obtain ⟨R5, A5⟩ := R4.lay (p := d) (o := .lst (if ahead k2 k1 then [w2, w1] else [w1, w2])) fd.1 notTbl_lst
    have AX : Adv pn G1 H1 (upd G4 d (.lst (if ahead k2 k1 then [w2, w1] else [w1, w2]))) (upd H4 d (.lst (if ahead k2 k1 then [w2, w1] else [w1, w2]))) := ⟨(A23.ge.trans x4).trans A5.ge⟩
    refine ⟨.ref d, _, I5, rfl, hQ _ _ _ n1 _ (R.tr A1 AX) R5 ?_ h1⟩
    simp only [Is]
    refine ⟨d, _, rfl, upd_same, ?_⟩
    have j1 := Is.up AX.ge _ _ iw1
    have j2 := Is.up AX.ge _ _ iw2
    revert j1 j2
    generalize upd G4 d _ = GG
    intro j1 j2
    split
    · simp only [DL.IsL]
      exact ⟨j2, j1, trivial⟩
    · simp only [DL.IsL]
      exact ⟨j1, j2, trivial⟩
end
end DL

set_option Elab.async false
set_option linter.all false
set_option maxRecDepth 100000
set_option maxHeartbeats 4000000
set_option autoImplicit false
/-! <= of pairs (int, truth); in on lists of data; tuple(l). -/
namespace DL
open PySem PySem.Spec PyProof.Rows L2
section
variable {X : Cx} {M : LK} {W : WX}
def rLePB (K : PySem.W.Frag) : R2 := fun x y H Q => ∃ (a b : Addr) (i j : Int) (p q : Bool), x = .ref a ∧ y = .ref b ∧ SqT K H a [.int i, .bl p] ∧ SqT K H b [.int j, .bl q] ∧ Q (.bl (!ahead (j, q) (i, p))) H
theorem le_lex {i j : Int} {p q : Bool} : Ob.lexAt (fun k => if k = 0 then decide (i = j) else p == q) (fun k => if k = 0 then decide (i ≤ j) else decide (b2i p ≤ b2i q)) (decide (2 ≤ 2)) 0 2 = !ahead (j, q) (i, p) := by
  rw [Ob.lexAt_succ, Ob.lexAt_succ, Ob.lexAt_zero]
  unfold ahead SrtO.lexB
  simp only [Nat.zero_add, if_true, if_neg (by decide : ¬ (1 : Nat) = 0)]
  by_cases e : i = j
  · subst e
    cases p <;> cases q <;> simp [b2i]
  · rw [if_neg (by simp [e]), if_neg (fun z => e z.symm)]
    by_cases h : i ≤ j
    · rw [decide_eq_true h, decide_eq_false (by omega)]
      rfl
    · rw [decide_eq_false h, decide_eq_true (by omega)]
      rfl
theorem op_lePB (hK : X.K = M.L.K) (hu : X.A.units < cLine) : OpR X (compareOp .LtE) (rLePB M.L.K) := by
  rw [← hK]
  intro pins s σ H x y v u Q I rx ry h
  obtain ⟨a, b, i, j, p, q, rfl, rfl, ha, hb, h⟩ := h
  cases rx
  cases ry
  obtain ⟨its, r1, p1, _⟩ := I.tuple ha
  obtain ⟨its2, r2, p2, _⟩ := I.tuple hb
  obtain ⟨t, rfl⟩ : ∃ t, its = [.int i t, .bool p] := by
    cases r1 with
    | cons z1 r1 =>
      cases r1 with
      | cons z2 r1 =>
        cases r1
        obtain ⟨t, rfl⟩ := z1
        cases (show _ = Value.bool p from z2)
        exact ⟨t, rfl⟩
  obtain ⟨t', rfl⟩ : ∃ t, its2 = [.int j t, .bool q] := by
    cases r2 with
    | cons z1 r1 =>
      cases r1 with
      | cons z2 r1 =>
        cases r1
        obtain ⟨t, rfl⟩ := z1
        cases (show _ = Value.bool q from z2)
        exact ⟨t, rfl⟩
  have R := Ob.RcOp.tuples_le (A := X.A) (s := s) (e := fun k => if k = 0 then decide (i = j) else p == q) (r := fun k => if k = 0 then decide (i ≤ j) else decide (b2i p ≤ b2i q)) p1 p2 hu (fun k h1 h2 => by
    match k, h1, h2 with
    | 0, _, _ =>
      have z : (i == j) = decide (i = j) := by
        by_cases q : i = j
        · rw [decide_eq_true q]; exact beq_iff_eq.mpr q
        · rw [decide_eq_false q]; exact beq_eq_false_iff_ne.mpr q
      simp only [if_true]
      rw [← z]
      exact SeqAt.EqAt.int_int _ _ _ _
    | 1, _, _ => exact SeqAt.EqAt.bool_bool _ _
    | k + 2, h1, _ => exact absurd (show k + 2 < 2 from h1) (by omega)) (fun k h1 h2 _ => by
    match k, h1, h2 with
    | 0, _, _ => exact Ob.RcOp.le_int _ _ _ _
    | 1, _, _ => exact fun _ _ _ _ h => PyProof.Rows.le_bool h
    | k + 2, h1, _ => exact absurd (show k + 2 < 2 from h1) (by omega))
  have R' : wpAny (model X.prog X.w) X.A (richCompare .LtE (.ref a) (.ref b)) (EP X pins σ Q) X.xe s := by
    refine R X.prog X.w X.xe (EP X pins σ Q) ?_
    have e : Ob.lexAt (fun k => if k = 0 then decide (i = j) else p == q) (fun k => if k = 0 then decide (i ≤ j) else decide (b2i p ≤ b2i q)) (decide (([.int i t, .bool p] : List Value).toArray.size ≤ ([.int j t', .bool q] : List Value).toArray.size)) 0 (min ([.int i t, .bool p] : List Value).toArray.size ([.int j t', .bool q] : List Value).toArray.size) = !ahead (j, q) (i, p) := le_lex
    rw [e]
    exact ⟨.bl _, H, I, rfl, h⟩
  exact R'
def gLeP : GR2 := fun x y n q => match x, y with
  | .tup [.int i, .bl a], .tup [.int j, .bl b] => q (.bl (!ahead (j, b) (i, a))) n
  | _, _ => False
theorem isl_pb {G : Hp} {vs : List V} {i : Int} {b : Bool} (h : DL.IsL M G vs [.int i, .bl b]) : vs = [.int i, .bl b] := by
  match vs, h with
  | [a, b], h =>
    simp only [DL.IsL, Is] at h
    rw [h.1, h.2.1]
  | [], h => simp only [DL.IsL] at h
  | [_], h => simp only [DL.IsL, and_false] at h
  | _ :: _ :: _ :: _, h => simp only [DL.IsL, and_false] at h
theorem dr_leP : DR2 M (rLePB M.L.K) gLeP := by
  intro pn G n σ δ H v u x y q Q R ix iy h k
  unfold gLeP at h
  split at h
  · rename_i i a j b
    simp only [Is] at ix iy
    obtain ⟨p, vs, rfl, g1, i1⟩ := ix
    obtain ⟨p', vs', rfl, g2, i2⟩ := iy
    obtain rfl := isl_pb i1
    obtain rfl := isl_pb i2
    exact ⟨p, p', i, j, a, b, rfl, rfl, R.ex.seqT g1, R.ex.seqT g2, k G _ (.bl _) n H Adv.refl R (by simp only [Is]) h⟩
  · exact h.elim
/-- in, on a list of data -/
def inDD (x y : D) (k : Bool → Prop) : Prop := match y with
  | .lst ys => ∃ d ds, py x = some d ∧ pyL ys = some ds ∧ SeqAt.shaped d = true ∧ SeqAt.shaped (.list ds) = true ∧ k (ds.any fun z => PyData.eqv z d)
  | _ => False
def gInD : GR2 := fun x y n q => inDD x y fun b => q (.bl b) n
def gNotInD : GR2 := fun x y n q => inDD x y fun b => q (.bl (!b)) n
theorem dr_inDD : DR2 M (rInD M.L.K) gInD := by
  intro pn G n σ δ H v u x y q Q R ix iy h k
  unfold gInD inDD at h
  split at h
  · rename_i ys
    obtain ⟨d, ds, e1, e2, s1, s2, h⟩ := h
    exact ⟨d, ds, py_dp R.ex x v d ix e1, py_dp R.ex (.lst ys) u (.list ds) iy (by simp only [py, e2, Option.map_some]), s1, s2, k G _ (.bl _) n H Adv.refl R (by simp only [Is]) h⟩
  · exact h.elim
theorem dr_notInDD : DR2 M (rNotInD M.L.K) gNotInD := by
  intro pn G n σ δ H v u x y q Q R ix iy h k
  unfold gNotInD inDD at h
  split at h
  · rename_i ys
    obtain ⟨d, ds, e1, e2, s1, s2, h⟩ := h
    exact ⟨d, ds, py_dp R.ex x v d ix e1, py_dp R.ex (.lst ys) u (.list ds) iy (by simp only [py, e2, Option.map_some]), s1, s2, k G _ (.bl _) n H Adv.refl R (by simp only [Is]) h⟩
  · exact h.elim
theorem op_inDD (hK : X.K = M.L.K) (hu : X.A.units + 65 < cLine) : OpR X (compareOp .In) (rInD M.L.K) := hK ▸ op_inD hu
theorem op_notInDD (hK : X.K = M.L.K) (hu : X.A.units + 65 < cLine) : OpR X (compareOp .NotIn) (rNotInD M.L.K) := hK ▸ op_notInD hu
end
end DL

set_option Elab.async false
set_option linter.all false
set_option maxRecDepth 100000
set_option maxHeartbeats 4000000
set_option autoImplicit false
/-! tuple(l), l[::-1], ranges with a step, ranges as values. -/
namespace DL
open PySem PySem.Spec PyProof.Rows L2
section
variable {X : Cx} {M : LK} {W : WX}
def gTuple : GC := fun xs n q => match xs with
  | [.lst ys] => q (.tup ys) n
  | [.tup ys] => q (.tup ys) n
  | _ => False
theorem drc_tuple (hK : X.K = M.L.K) : DRC M (fun xs H Q => ∃ p ys, xs = [.ref p] ∧ ((SqL X.K H p ys ∧ ∀ l, H l = none → Q (.ref l) (upd H l (.tup ys))) ∨ (SqT X.K H p ys ∧ Q (.ref p) H))) gTuple := by
  intro pn G n σ δ H vs xs q Q R iv h k
  unfold gTuple at h
  split at h
  · rename_i ys
    obtain ⟨v, rfl, iw⟩ := iv.one
    simp only [Is] at iw
    obtain ⟨p, us, rfl, h1, h2⟩ := iw
    refine ⟨p, us, rfl, .inl ⟨SqL.of (R.ex _ _ h1), fun l hl => ?_⟩⟩
    obtain ⟨R2, A2⟩ := R.lay (o := .tup us) hl notTbl_tup
    exact k _ _ _ n _ A2 R2 (by simp only [Is]; exact ⟨l, us, rfl, SqT.of upd_same, IsL.up A2.ge _ _ h2⟩) h
  · rename_i ys
    obtain ⟨v, rfl, iw⟩ := iv.one
    have iw' := iw
    simp only [Is] at iw
    obtain ⟨p, us, rfl, h1, h2⟩ := iw
    exact ⟨p, us, rfl, .inr ⟨by rw [hK]; exact R.ex.seqT h1, k G _ _ n H Adv.refl R iw' h⟩⟩
  · exact h.elim
theorem IsL.reverse {G : Hp} : ∀ {ds : List D} {vs : List V}, DL.IsL M G vs ds → DL.IsL M G vs.reverse ds.reverse
  | [], [], h => h
  | [], _ :: _, h => by simp only [DL.IsL] at h
  | _ :: _, [], h => by simp only [DL.IsL] at h
  | d :: ds, v :: vs, h => by
    simp only [DL.IsL] at h
    rw [List.reverse_cons, List.reverse_cons]
    exact DL.IsL.append (IsL.reverse h.2) (by simp only [DL.IsL]; exact ⟨h.1, trivial⟩)
/-- l[::-1] -/
def dRevL (fe : DTE) : DTE := fun δ n q e => fe δ n (fun x n1 => match x with | .lst ys => q (.lst ys.reverse) n1 | _ => False) e
theorem dp_revL {e : Expr} {fe : DTE} {k : Nat} {p1 p2 p3 pos : Pos} (hK : X.K = M.L.K) (he : PE X e (liftE M W fe)) : PE X (.Subscript e (.Slice none none (some (.UnaryOp .USub (.Constant (.int 1) k p1) p2)) p3) pos) (liftE M W (dRevL fe)) :=
  PEw (pe_revL he) fun σ H Q ⟨pn, G, n, δ, q, e, R, hf, hQ, hX⟩ => by
    refine ⟨pn, G, n, δ, _, e, R, hf, fun G1 v d n1 H1 A1 R1 i1 h1 => ?_, hX⟩
    cases d with
    | lst ys =>
      simp only [Is] at i1
      obtain ⟨p, us, rfl, h2, h3⟩ := i1
      refine ⟨p, us, rfl, SqL.of (R1.ex _ _ h2), fun l hl => ?_⟩
      obtain ⟨R2, A2⟩ := R1.lay (o := .lst us.reverse) hl notTbl_lst
      exact hQ _ _ (.lst ys.reverse) n1 _ (R.tr A1 A2) R2 (by simp only [Is]; exact ⟨l, _, rfl, upd_same, IsL.reverse (IsL.up A2.ge _ _ h3)⟩) h1
    | _ => exact h1.elim
/-- lo, lo + c, .. -/
def rangeC (lo c : Int) (n : Nat) : List D := (List.range n).map fun i => .int (lo + (i : Nat) * c)
theorem yields_rangeC {pn : Addr} {G0 H0 : Hp} {lo c : Int} {m : Nat} : Yields M pn G0 H0 (Itc lo c m) (rangeC lo c m) where
  go := fun i G H n σ δ A R d hd => by
    have hlt : i < m := by
      have := (List.getElem?_eq_some_iff.mp hd).1
      simpa [rangeC] using this
    have e : d = .int (lo + (i : Nat) * c) := by
      unfold rangeC at hd
      rw [List.getElem?_map, List.getElem?_range hlt] at hd
      exact (Option.some.inj hd).symm
    refine ⟨hlt, fun x H' y => ?_⟩
    obtain ⟨rfl, rfl⟩ := y
    exact ⟨G, Adv.refl, R, by rw [e]; simp only [Is]⟩
  stop := fun G H n σ δ A R => by show m ≤ (rangeC lo c m).length; simp [rangeC]
def diRange3 (f : DTA) : DTI := fun δ n q e => f δ n (fun xs n1 => match xs with | [.int i, .int j, .int c] => ∃ m, RgC i j c m ∧ q (rangeC i c m) n1 | _ => False) e
theorem di_range3 {tg : Expr} {e : Expr} {f : DTA} (h : PI X tg e (iRng3 (liftA M W f))) : PI X tg e (liftI M W (diRange3 f)) :=
  PIw h fun σ H R' ⟨pn, G, n, δ, q, e, R, hf, hQ, hX⟩ => by
    refine ⟨pn, G, n, δ, _, e, R, hf, fun G1 vs ds n1 H1 A1 R1 i1 h1 => ?_, hX⟩
    match ds, h1 with
    | [.int i, .int j, .int c], h1 =>
      obtain rfl := IsL.ints (is := [i, j, c]) i1
      obtain ⟨m, r, h1⟩ := h1
      exact ⟨i, j, c, m, rfl, r, hQ G1 _ n1 H1 _ A1 R1 yields_rangeC h1⟩
/-- range(i, j) as a value -/
def dRngV (f : DTA) : DTE := fun δ n q e => f δ n (fun xs n1 => match xs with | [.int i, .int j] => ∀ p, n1.mu p = none → q (.ref p) ⟨n1.at_, mup n1.mu p (some (.rng i j))⟩ | _ => False) e
theorem dp_rngV {e : Expr} {f : DTA} (h : PE X e (tCB (fun vs H Q => ∃ i j, vs = [V.int i, V.int j] ∧ ∀ p, H p = none → Q (.ref p) (upd H p (.rng i j))) (liftA M W f))) : PE X e (liftE M W (dRngV f)) :=
  PEw h fun σ H Q ⟨pn, G, n, δ, q, e, R, hf, hQ, hX⟩ => by
    refine ⟨pn, G, n, δ, _, e, R, hf, fun G1 vs ds n1 H1 A1 R1 i1 h1 => ?_, hX⟩
    match ds, h1 with
    | [.int i, .int j], h1 =>
      obtain rfl := IsL.ints (is := [i, j]) i1
      refine ⟨i, j, rfl, fun p hp => ?_⟩
      obtain ⟨R2, A2⟩ := R1.mak (o := .rng i j) (u := .rng i j) hp (by simp only [MIs]; exact ⟨trivial, trivial⟩)
      exact hQ _ (.ref p) (.ref p) _ _ (R.tr A1 A2) R2 (by simp only [Is]) (h1 p (R1.munone hp))
/-- over a range that stands in a name -/
def diRngN (f : DTE) : DTI := fun δ n q e => f δ n (fun x n1 => ∃ a i j, x = .ref a ∧ n1.mu a = some (.rng i j) ∧ (-(2 ^ 62) ≤ i ∧ i < 2 ^ 62 ∧ -(2 ^ 62) ≤ j ∧ j < 2 ^ 62) ∧ q (rangeD i (j - i).toNat) n1) e
theorem pi_rngN {tg e : Expr} {te : TE} (h : PE X e te) : PI X tg e (fun σ H R => te σ H fun x H1 => ∃ a i j, x = .ref a ∧ H1 a = some (.rng i j) ∧ (-(2 ^ 62) ≤ i ∧ i < 2 ^ 62 ∧ -(2 ^ 62) ≤ j ∧ j < 2 ^ 62) ∧ R (Itr i (j - i).toNat) H1) := by
  refine ⟨fun pins s σ H R I h' => ?_⟩
  refine thn (h.run pins s σ H _ I h') fun v s1 ⟨x, H1, I1, r1, a, lo, hi, e, ha, ⟨h1, h2, h3, h4⟩, q⟩ => ?_
  subst e
  cases r1
  obtain ⟨t, u, w, ho⟩ := I1.hok a _ ha
  refine wpAny_pyIter_range (r := a) ho (small_one h1 h2 h3 h4) ?_
  refine ⟨s1.heap.objs.size, [s1.heap.objs.size], _, _, H1, rfl, I1.kept (t' := s1.toks) fun b o e => Heap.get?_push_of_some _ e, turn_range _ lo (hi - lo).toNat, ?_, fun b hb => ?_, q⟩
  · have e1 : lo + ((0 : Nat) : Int) * 1 = lo := by simp
    have e2 : (((hi - lo).toNat : Nat) : Int) - ((0 : Nat) : Int) = Builtin.Range.rangeSize lo hi 1 := by rw [rangeSize_one]; split <;> omega
    show IsRangeIter _ _ (lo + ((0 : Nat) : Int) * 1) ((((hi - lo).toNat : Nat) : Int) - ((0 : Nat) : Int)) 1
    rw [e1, e2]
    exact Heap.get?_push_size _ rfl
  · have e : b = s1.heap.objs.size := by simpa using hb
    subst e
    exact I1.fpOk (Nat.le_refl _) (I1.hok.fresh (Nat.le_refl _))
theorem di_rngN {tg e : Expr} {f : DTE} (h : PE X e (liftE M W f)) : PI X tg e (liftI M W (diRngN f)) :=
  PIw (pi_rngN h) fun σ H R' ⟨pn, G, n, δ, q, e, R, hf, hQ, hX⟩ => by
    refine ⟨pn, G, n, δ, _, e, R, hf, fun G1 v d n1 H1 A1 R1 i1 h1 => ?_, hX⟩
    obtain ⟨a, i, j, rfl, hm, hb, h1⟩ := h1
    simp only [Is] at i1
    subst i1
    obtain ⟨o, h2, h3, _⟩ := R1.mu a _ hm
    cases o <;> simp only [MIs] at h3
    obtain ⟨rfl, rfl⟩ := h3
    exact ⟨a, _, _, rfl, h2, hb, hQ G1 _ n1 H1 _ A1 R1 yields_range h1⟩
end
end DL

set_option Elab.async false
set_option linter.all false
set_option maxRecDepth 100000
set_option maxHeartbeats 4000000
set_option autoImplicit false
/-! [e for a in l for b in m] -/
namespace DL
open PySem PySem.Spec PyProof.Rows L2
section
variable {X : Cx} {M : LK} {W : WX}
def dLc2I (g1 : DTG) (te : DTE) (vs1 : List Nat) (δ2 : DEnv) (μ : Addr → Option MO) : List D → List D → Nat → (List D → Nat → Prop) → Prop
  | [], acc, t, k => k acc t
  | e :: es, acc, t, k => acc.length < 100000 ∧ ∀ m, Mle μ m → g1 e (wipeD δ2 vs1) ⟨t, m⟩ fun δ3 n3 => te δ3 n3 (fun y n4 => n4.mu = m ∧ dLc2I g1 te vs1 δ2 μ es (acc ++ [y]) n4.at_ k) noX
def dLc2L (g : DTG) (it1 : DTI) (g1 : DTG) (te : DTE) (vs vs1 : List Nat) (δ : DEnv) (μ : Addr → Option MO) : List D → List D → Nat → (List D → Nat → Prop) → Prop
  | [], acc, t, k => k acc t
  | d :: ds, acc, t, k => ∀ m, Mle μ m → g d (wipeD δ vs) ⟨t, m⟩ fun δ2 n0 => it1 δ2 n0 (fun es n1 => n1.mu = m ∧ dLc2I g1 te vs1 δ2 μ es acc n1.at_ fun acc' t' => dLc2L g it1 g1 te vs vs1 δ μ ds acc' t' k) noX
def dLc2 (it : DTI) (g : DTG) (it1 : DTI) (g1 : DTG) (te : DTE) (vs vs1 : List Nat) : DTE := fun δ n q e => it δ n (fun ds n1 => dLc2L g it1 g1 te vs vs1 δ n1.mu ds [] n1.at_ fun ys t => q (.lst ys) ⟨t, n1.mu⟩) e
theorem liftE_lc2 {it it1 : DTI} {g g1 : DTG} {te : DTE} {vs vs1 : List Nat} (σ : L2.St) (H : Hp) (Q : VK) (h : liftE M W (dLc2 it g it1 g1 te vs vs1) σ H Q) :
    tLc2 (liftI M W it) (liftG M vs g) (liftT M W0 dYes) (liftI M W0 it1) (liftG M vs1 g1) (liftT M W0 dYes) (liftE M W0 te) vs vs1 σ H Q := by
  obtain ⟨pn, G, n, δ, q, e, R, hf, hQ, hX⟩ := h
  refine ⟨pn, G, n, δ, _, e, R, hf, fun G1 ds n1 H1 J A1 R1 Y h1 => ?_, hX⟩
  intro Dd hD
  have md := R1.munone hD
  obtain ⟨RD, AD⟩ := R1.mak (o := .lst []) (u := .lst []) hD (by simp only [MIs, DL.IsL])
  obtain ⟨μ, hμ⟩ : ∃ μ, μ = n1.mu := ⟨_, rfl⟩
  rw [← hμ] at md RD h1
  refine ⟨fun i m H' => m = ds.length - i ∧ i ≤ ds.length ∧ ∃ (G' : Hp) (t : Nat) (acc : List D), Rep M pn G' ⟨t, mup μ Dd (some (.lst acc))⟩ σ δ H' ∧ Adv pn G1 H1 G' H' ∧ dLc2L g it1 g1 te vs vs1 δ μ (ds.drop i) acc t fun ys t => q (.lst ys) ⟨t, μ⟩,
    ⟨ds.length, rfl, Nat.zero_le _, G1, n1.at_, [], RD, AD, h1⟩, ?_⟩
  rintro i m H2 ⟨rfl, hi, G2, t2, acc2, R2, A2, h2⟩
  by_cases hlt : i < ds.length
  · obtain ⟨d, hd⟩ : ∃ d, ds[i]? = some d := ⟨ds[i], by simp [hlt]⟩
    have e1 : ds.drop i = d :: ds.drop (i + 1) := by
      rw [List.drop_eq_getElem_cons hlt]
      congr 1
      rw [List.getElem?_eq_getElem hlt] at hd
      exact Option.some.inj hd
    rw [e1] at h2
    obtain ⟨g2, g3⟩ := Y.go i G2 H2 _ σ δ A2.ge R2 d hd
    refine .inr ⟨g2, fun H' => ∃ (G' : Hp) (t : Nat) (acc : List D), Rep M pn G' ⟨t, mup μ Dd (some (.lst acc))⟩ σ δ H' ∧ Adv pn G1 H1 G' H' ∧ dLc2L g it1 g1 te vs vs1 δ μ (ds.drop (i + 1)) acc t fun ys t => q (.lst ys) ⟨t, μ⟩,
      fun H' h' => ⟨ds.length - (i + 1), by omega, rfl, hlt, h'⟩, fun x H3 hy => ?_⟩
    obtain ⟨G3, A3, R3, i3⟩ := g3 x H3 hy
    have h2 := h2 (mup μ Dd (some (.lst acc2))) (fun a o e => by rw [mup_ne (fun z => by rw [z, md] at e; cases e)]; exact e)
    refine ⟨pn, G3, _, wipeD δ vs, d, _, R3.wipe, i3, h2, fun G4 σ4 δ4 n4 H4 A4 R4 w4 h4 => ?_⟩
    refine ⟨w4.trans (wipe_wipe fun _ h => h), pn, G4, n4, δ4, fun b n' => b = true ∧ n' = n4, noX, R4, ⟨rfl, rfl⟩, fun G5 b n5 H5 A5 R5 h5 => ?_, XEnd.no noX_no⟩
    obtain ⟨rfl, rfl⟩ := h5
    refine iteT ⟨pn, G5, n5, δ4, _, noX, R5, h4, fun G6 es n6 H6 J1 A6 R6 Y1 h6 => ?_, XEnd.no noX_no⟩
    obtain ⟨em, h6⟩ := h6
    have A26 : Adv pn G2 H2 G6 H6 := R2.tr A3 (R3.tr A4 (R4.tr A5 A6))
    obtain ⟨t6, m6⟩ := n6
    simp only at em h6
    subst em
    refine ⟨fun j k H' => k = es.length - j ∧ j ≤ es.length ∧ ∃ (G' : Hp) (t : Nat) (acc : List D), Rep M pn G' ⟨t, mup μ Dd (some (.lst acc))⟩ σ4 δ4 H' ∧ Adv pn G6 H6 G' H' ∧ dLc2I g1 te vs1 δ4 μ (es.drop j) acc t fun acc' t' => dLc2L g it1 g1 te vs vs1 δ μ (ds.drop (i + 1)) acc' t' fun ys t => q (.lst ys) ⟨t, μ⟩,
      ⟨es.length, rfl, Nat.zero_le _, G6, t6, acc2, R6, Adv.refl, h6⟩, ?_⟩
    rintro j k H7 ⟨rfl, hj, G7, t7, acc7, R7, A7, h7⟩
    by_cases hlj : j < es.length
    · obtain ⟨f, hf⟩ : ∃ f, es[j]? = some f := ⟨es[j], by simp [hlj]⟩
      have e2 : es.drop j = f :: es.drop (j + 1) := by
        rw [List.drop_eq_getElem_cons hlj]
        congr 1
        rw [List.getElem?_eq_getElem hlj] at hf
        exact Option.some.inj hf
      rw [e2] at h7
      obtain ⟨hlen, h7⟩ := h7
      obtain ⟨g4, g5⟩ := Y1.go j G7 H7 _ σ4 δ4 A7.ge R7 f hf
      refine .inr ⟨g4, fun H' => ∃ (G' : Hp) (t : Nat) (acc : List D), Rep M pn G' ⟨t, mup μ Dd (some (.lst acc))⟩ σ4 δ4 H' ∧ Adv pn G6 H6 G' H' ∧ dLc2I g1 te vs1 δ4 μ (es.drop (j + 1)) acc t fun acc' t' => dLc2L g it1 g1 te vs vs1 δ μ (ds.drop (i + 1)) acc' t' fun ys t => q (.lst ys) ⟨t, μ⟩,
        fun H' h' => ⟨es.length - (j + 1), by omega, rfl, hlj, h'⟩, fun x8 H8 hy8 => ?_⟩
      obtain ⟨G8, A8, R8, i8⟩ := g5 x8 H8 hy8
      have h7 := h7 (mup μ Dd (some (.lst acc7))) (fun a o e => by rw [mup_ne (fun z => by rw [z, md] at e; cases e)]; exact e)
      refine ⟨pn, G8, _, wipeD δ4 vs1, f, _, R8.wipe, i8, h7, fun G9 σ9 δ9 n9 H9 A9 R9 w9 h9 => ?_⟩
      refine ⟨w9.trans (wipe_wipe fun _ h => h), pn, G9, n9, δ9, fun b n' => b = true ∧ n' = n9, noX, R9, ⟨rfl, rfl⟩, fun Ga b na Ha Aa Ra ha => ?_, XEnd.no noX_no⟩
      obtain ⟨rfl, rfl⟩ := ha
      refine iteT ⟨pn, Ga, na, δ9, _, noX, Ra, h9, fun Gb v y nb Hb Ab Rb ib hb => ?_, XEnd.no noX_no⟩
      obtain ⟨em, hb⟩ := hb
      have A7b : Adv pn G7 H7 Gb Hb := R7.tr A8 (R8.tr A9 (R9.tr Aa Ab))
      have Rb' : Rep M pn Gb nb σ4 δ4 Hb := Rb.env_of (R7.env.up A7b)
      have mb : nb.mu Dd = some (.lst acc7) := by rw [em, mup_same]
      obtain ⟨u, hu, iu, _, _⟩ := Rb'.mu Dd _ mb
      cases u <;> simp only [MIs] at iu
      rename_i us
      refine ⟨us, hu, by rw [iu.length]; exact Nat.lt_of_lt_of_le hlen (le_line (Nat.le_refl _)), Gb, nb.at_, acc7 ++ [y], ?_, (R6.tr A7 A7b).trans ⟨Ext.refl _⟩, hb⟩
      have := Rb'.chg (o := .lst (us ++ [v])) (u := .lst (acc7 ++ [y])) mb (by simp only [MIs]; exact DL.IsL.append iu (by simp only [DL.IsL]; exact ⟨ib, trivial⟩))
      rw [em, mup_mup] at this
      exact this
    · have ej : j = es.length := by omega
      subst ej
      rw [List.drop_length] at h7
      refine .inl ⟨Y1.stop G7 H7 _ σ4 δ4 A7.ge R7, G7, t7, acc7, R7.env_of (R2.env.up (R2.tr A26 A7)), R1.tr A2 (R2.tr A26 A7), h7⟩
  · have ei : i = ds.length := by omega
    subst ei
    rw [List.drop_length] at h2
    refine .inl ⟨Y.stop G2 H2 _ σ δ A2.ge R2, ?_⟩
    have A02 := R.tr A1 A2
    obtain ⟨G3, R3, A3, i3⟩ := frz_is R2 (a := Dd) (o := .lst acc2) mup_same rfl
    have R3' : Rep M pn G3 ⟨t2, μ⟩ σ δ H2 := by
      have := R3
      simp only [mup_mup, mup_back md] at this
      exact this
    exact hQ G3 (.ref Dd) (.lst acc2) ⟨t2, μ⟩ H2 (A02.trans A3) R3' i3 h2
theorem dp_lc2 {ex : Expr} {it it1 : DTI} {g g1 : DTG} {te : DTE} {vs vs1 : List Nat} (h : PE X ex (tLc2 (liftI M W it) (liftG M vs g) (liftT M W0 dYes) (liftI M W0 it1) (liftG M vs1 g1) (liftT M W0 dYes) (liftE M W0 te) vs vs1)) : PE X ex (liftE M W (dLc2 it g it1 g1 te vs vs1)) := PEw h liftE_lc2
end
end DL

set_option Elab.async false
set_option linter.all false
set_option maxRecDepth 100000
set_option maxHeartbeats 4000000
set_option autoImplicit false
/-! != of two pairs (text, instance) whose texts are one text and whose instances an own == takes for equal. -/
namespace TN
open PySem PySem.Spec PyProof.Rows PySem.AutoSeq1
section
variable {prog : Program} {w : World} {A : Around} {R : Result → Shared → Prop}
/-- tuples that are equal item by item: != is False -/
theorem ne_body (l b : Addr) (items items2 : Array Value) (n n2 : Nat) (dd dd2 : Option Addr) (sl sl2 : Array (Option Value)) (hsz : items.size = items2.size) (J : Nat → Shared → Prop)
    (one : ∀ k (h1 : k < items.size) (h2 : k < items2.size) s, J k s → wpAny (model prog w) A.in1 (eqBool items[k] items2[k]) (fun r s' => r = true ∧ J (k + 1) s') (fun e s' => R (.error e) s') s)
    (last : ∀ s, J items.size s → R (.ok (.ret (.bool false))) s) {s : Shared} (ol : s.heap.get? l = some { cls := .type "tuple", dict := dd, data := .seq items n, slots := sl }) (ob : s.heap.get? b = some { cls := .type "tuple", dict := dd2, data := .seq items2 n2, slots := sl2 }) (j0 : J 0 s) :
    wpAny (model prog w) A.in1 (Builtin.«tuple.__ne__» ⟨[.ref l, .ref b], []⟩) (GQ.FinOf prog w A R) (fun e s' => R (.error e) s') s := by
  have sub := AutoSeq1.sub_tuple_tuple
  have zl : (items.toList.zip items2.toList).length = items.size := by simp [hsz]
  have start := j0
  obtain ⟨hp, g, d, tk, os⟩ := s
  wp_walk using wpAny_loadPart' ol, wpAny_loadPart' ob, wpAny_forIn_list _ (fun rest b s' => b.1 = none ∧ ∃ k, rest = (items.toList.zip items2.toList).drop k ∧ k ≤ items.size ∧ J k s') _
  case turn =>
    rintro ⟨y, x⟩ rest b s' ⟨hb', k, hz, hk, hJ⟩
    have hlt : k < (items.toList.zip items2.toList).length := Nat.lt_of_not_le fun h' => by
      rw [List.drop_of_length_le h'] at hz
      cases hz
    have h1 : k < items.size := zl ▸ hlt
    have h2 : k < items2.size := hsz ▸ h1
    rw [List.drop_eq_getElem_cons hlt] at hz
    injection hz with hyx hrest
    obtain rfl : y = items[k] := by simpa using congrArg Prod.fst hyx
    obtain rfl : x = items2[k] := by simpa using congrArg Prod.snd hyx
    refine wpAny_bind (wpAny_mono (one k h1 h2 s' hJ) (fun r s2 q2 => ?_) fun _ _ x => x)
    obtain ⟨rfl, q2⟩ := q2
    wp_walk
    exact ⟨rfl, k + 1, hrest, h1, q2⟩
  case fin =>
    rintro ⟨b1, b2⟩ s' ⟨hb', k, hz, hk, hJ⟩
    simp only at hb'
    subst hb'
    have hge : items.size ≤ k := Nat.le_of_not_lt fun h' => by
      rw [List.drop_eq_getElem_cons (by rw [zl]; exact h')] at hz
      cases hz
    have hk' : k = items.size := by omega
    have hR : R (.ok (.ret (.bool false))) s' := last s' (hk' ▸ hJ)
    wp_walk
    simpa [Builtin.Tuple.tupleCompareSizes, hsz] using hR
  case h => exact ⟨rfl, 0, rfl, Nat.zero_le _, start⟩
end
section
variable {prog : Program} {w : World} {A : Around} {E : Value → Shared → Prop} {s : Shared}
theorem rc_ne {l b : Addr} {items items2 : Array Value} {Q : Value → Shared → Prop} (hsz : items.size = items2.size) (hu : A.units < cLine) (J : Nat → Shared → Prop)
    (hl : s.heap.IsTuple l items) (hb : s.heap.IsTuple b items2)
    (one : ∀ k (h1 : k < items.size) (h2 : k < items2.size) s, J k s → wpAny (model prog w) A.in1 (eqBool items[k] items2[k]) (fun r s' => r = true ∧ J (k + 1) s') E s)
    (last : ∀ s, J items.size s → Q (.bool false) s) (h : J 0 s) : wpAny (model prog w) A (richCompare .NotEq (.ref l) (.ref b)) Q E s := by
  obtain ⟨⟨cls, dd, data, sl⟩, ho, hc, n, hd⟩ := id hl
  obtain ⟨⟨cls2, dd2, data2, sl2⟩, ho2, hc2, n2, hd2⟩ := id hb
  simp only at hc hd hc2 hd2
  subst hc hd hc2 hd2
  refine wpAny_richCompare_same_room (op := .NotEq) ⟨_, ho, rfl⟩ ⟨_, ho2, rfl⟩ F.slot_tuple_ne (GQ.call_here F.slot_tuple_ne ⟨_, ho, rfl⟩ F.entry_tuple_ne (F.args_tuple_ne_2 _ _) ?_) hu
  exact ne_body (R := wants (fun v s' => v ≠ .notImplemented ∧ Q v s') E) l b items items2 n n2 dd dd2 sl sl2 hsz J one (fun s' q => ⟨(fun x => nomatch x), last s' q⟩) ho ho2 h
end
end TN
namespace DL
open PySem PySem.Spec PyProof.Rows L2
section
variable {X : Cx} {M : LK} {W : WX}
/-- != of two pairs (text, instance) -/
def rNeI (K : PySem.W.Frag) (C : Addr) (sp : Sp) : R2 := fun x y H Q => ∃ (p1 p2 a dx : Addr) (z : Str) (w2 : V) (tb : Value) (fs : List (Str × V)), x = .ref p1 ∧ y = .ref p2 ∧ SqT K H p1 [.str z, .ref a] ∧ SqT K H p2 [.str z, w2] ∧ H a = some (.ins C dx fs) ∧ TyX K H w2 tb ∧ PySem.W.notFirst K C tb = true ∧ (∃ b, w2 = .ref b) ∧
  Q (.bl false) H ∧ sp [.ref a, w2] H (fun v H' => v = .bl true ∧ Q (.bl false) H') OB.noE
theorem op_neI {C : Addr} {sp : Sp} {k : Nat} {f : Addr} {fd : FuncData} {ps : List Str} (c : OB.EqC X.K C f) (F : FnOk X.prog X.w X.K X.mg X.base (L2.CX X.prog X.w) k f fd ps sp) (hr : Room (k + 1) X.A) (b : Binds X.K fd ps []) : OpR X (compareOp .NotEq) (rNeI X.K C sp) := by
  intro pins s σ H x y u v Q I rx ry h
  obtain ⟨p1, p2, a, dx, z, w2, tb, fs, rfl, rfl, h1, h2, ha, ty, nf, ⟨b2, rfl⟩, q0, hsp⟩ := h
  cases rx
  cases ry
  obtain ⟨its, r1, e1, _⟩ := I.tuple h1
  obtain ⟨its2, r2, e2, _⟩ := I.tuple h2
  obtain ⟨t1, rfl⟩ : ∃ t, its = [.str z t, .ref a] := by
    cases r1 with
    | cons z1 r =>
      cases r with
      | cons z2 r =>
        cases r
        obtain ⟨t, rfl⟩ := z1
        cases (show _ = Value.ref a from z2)
        exact ⟨t, rfl⟩
  obtain ⟨t2, rfl⟩ : ∃ t, its2 = [.str z t, .ref b2] := by
    cases r2 with
    | cons z1 r =>
      cases r with
      | cons z2 r =>
        cases r
        obtain ⟨t, rfl⟩ := z1
        cases (show _ = Value.ref b2 from z2)
        exact ⟨t, rfl⟩
  refine (show wpAny (model X.prog X.w) X.A (richCompare .NotEq (.ref p1) (.ref p2)) (EP X pins σ Q) X.xe s from ?_)
  refine TN.rc_ne (items := #[.str z t1, .ref a]) (items2 := #[.str z t2, .ref b2]) rfl hr.units0 (fun k s' => (k < 2 → Inv X pins σ H s') ∧ (k = 2 → ∃ H', Inv X pins σ H' s' ∧ Q (.bl false) H')) e1 e2 (fun k g1 g2 s' J => ?_) (fun s' J => ?_) ⟨fun _ => I, fun z => by cases z⟩
  · match k, g1, g2, J with
    | 0, _, _, J =>
      have e : (z == z) = true := beq_self_eq_true z
      have := SeqAt.EqAt.str_str (A := X.A.in1) (s := s') z t1 z t2
      rw [e] at this
      exact this X.prog X.w X.xe _ ⟨rfl, fun _ => J.1 (by decide), fun z => by cases z⟩
    | 1, _, _, J =>
      have I' := J.1 (by decide)
      show wpAny (model X.prog X.w) X.A.in1 (eqBool (.ref a) (.ref b2)) _ X.xe s'
      by_cases hab : a = b2
      · subst hab
        exact SeqAt.EqAt.same (A := X.A.in1) (s := s') (.ref a) X.prog X.w X.xe _ ⟨rfl, fun z => absurd z (by decide), fun _ => ⟨H, I', q0⟩⟩
      · obtain ⟨mA, J2, _⟩ := ins_get I'.hok ha
        obtain ⟨od, J2, _⟩ := J2.look
        obtain ⟨m, hF⟩ := I'.fr
        obtain ⟨P, Z, hP, _⟩ := kit_of I' (show RelV (.ref b2) (.ref b2) from rfl) ty
        refine GQ.eqBool_refG hab (PySem.W.cmp_K (op := .Eq) (tb := tb) hr.in1.units0 hF I'.ok.mod.kin J2 (Z.ty _ _ I'.kIn hP) nf c.eq c.fn ?_)
        refine wpAny_mono (OB.below (A := X.A.in1) F b hr.in1 rfl OB.passNo I' (us := [.ref a, .ref b2]) (vs := [.ref a, .ref b2]) (.cons rfl (.cons rfl .nil)) hsp) (fun w s2 q => ?_) fun _ _ z => z
        obtain ⟨w', H', I2, rz, rfl, q⟩ := q
        cases (show w = Value.bool true from rz)
        exact ⟨true, rfl, rfl, fun z => absurd z (by decide), fun _ => ⟨H', I2, q⟩⟩
    | k + 2, g1, _, _ => exact absurd (show k + 2 < 2 from g1) (by omega)
  · obtain ⟨H', I2, q⟩ := J.2 rfl
    exact ⟨.bl false, H', I2, rfl, q⟩
def gNeI (K : PySem.W.Frag) (C : Addr) (s : DSp) : GR2 := fun x y n q => match x, y with
  | .tup [.str a, .ins C1 ns xs], .tup [.str b, .ins C2 ms ys] => a = b ∧ C1 = C ∧ (∃ t, tyD K (.ins C2 ms ys) t ∧ PySem.W.notFirst K C t = true) ∧ s [.ins C1 ns xs, .ins C2 ms ys] n (fun d n' => d = .bl true ∧ n' = n) (fun _ _ _ _ => False) ∧ q (.bl false) n
  | x, y => eqD x y fun b => q (.bl (!b)) n
theorem op_neIX {C : Addr} {s : DSp} {k j : Nat} (c : EqD X.prog X.w X.K X.mg X.base M k C s) (hK : X.K = M.L.K) (hr : Room j X.A) (hkj : k + 1 ≤ j) : OpR X (compareOp .NotEq) (fun x y H Q => (rNe x y H Q ∨ rNeD M.L.K x y H Q) ∨ rNeI M.L.K C (lift M 2 s) x y H Q) := by
  obtain ⟨f, fd, ps, e, F, b⟩ := c.ex
  exact OpR.or (op_neX hK (by have := hr.un; omega)) (hK ▸ op_neI e F (hr.mono hkj) b)
theorem isl_two {G : Hp} {vs : List V} {d e : D} (h : DL.IsL M G vs [d, e]) : ∃ v w, vs = [v, w] ∧ Is M G v d ∧ Is M G w e := by
  match vs, h with
  | [a, b], h =>
    simp only [DL.IsL] at h
    exact ⟨a, b, rfl, h.1, h.2.1⟩
  | [], h => simp only [DL.IsL] at h
  | [_], h => simp only [DL.IsL, and_false] at h
  | _ :: _ :: _ :: _, h => simp only [DL.IsL, and_false] at h
theorem dr_neI {C : Addr} {s : DSp} : DR2 M (fun x y H Q => (rNe x y H Q ∨ rNeD M.L.K x y H Q) ∨ rNeI M.L.K C (lift M 2 s) x y H Q) (gNeI M.L.K C s) := by
  intro pn G n σ δ H v u x y q Q R ix iy h k
  unfold gNeI at h
  split at h
  · rename_i a C1 ns xs b C2 ms ys
    obtain ⟨rfl, rfl, ⟨t, ht, hn⟩, h1, h2⟩ := h
    simp only [Is] at ix iy
    obtain ⟨p1, vs, rfl, g1, i1⟩ := ix
    obtain ⟨p2, us, rfl, g2, i2⟩ := iy
    obtain ⟨v1, v2, rfl, i3, i4⟩ := isl_two i1
    obtain ⟨u1, u2, rfl, i5, i6⟩ := isl_two i2
    have i4' := i4
    have i6' := i6
    simp only [Is] at i3 i4' i5 i6'
    obtain ⟨c1, d1, f1, rfl, h3, h4, h5⟩ := i4'
    obtain ⟨c2, d2, f2, rfl, h6, h7, h8⟩ := i6'
    subst i3 i5
    refine .inr ⟨p1, p2, c1, d1, _, _, t, f1, rfl, rfl, R.ex.seqT g1, R.ex.seqT g2, R.ex _ _ h3, tyD_ok R.ex ht i6, hn, ⟨c2, rfl⟩, k G (.bl false) (.bl false) n H Adv.refl R (by simp only [Is]) h2, ?_⟩
    refine ⟨pn, G, n, _, _, fun _ _ _ _ => False, R.bare, by simp only [DL.IsL]; exact ⟨i4, i6, trivial⟩, rfl, h1, fun G' v d n' H' A' R' i' h' => ?_, fun G' C a ns xs n' H' A' R' x' h' => h'.elim⟩
    obtain ⟨rfl, rfl⟩ := h'
    simp only [Is] at i'
    exact ⟨i', k G' (.bl false) (.bl false) _ H' A' (R.back R' A') (by simp only [Is]) h2⟩
  · exact .inl (dr_ne pn G n σ δ H v u x y q Q R ix iy h k)
end
end DL

set_option Elab.async false
set_option linter.all false
set_option maxRecDepth 100000
set_option maxHeartbeats 4000000
set_option autoImplicit false
/-! Own errors as values: made, asked for a field, asked for their kind. -/
namespace L2
open PySem PySem.Spec PyProof.Rows
theorem errO_ok {P : Program} {w : World} {H : Hp} {h : Heap} {a C : Addr} {dd : Option Addr} {oe : Obj} {vs : Array Value} (e : h.get? a = some oe) (c : oe.cls = .ref C) (d : oe.dict = dd) (v : oe.data = .fields vs) : ObjOk P w H h a (DL.ErrO C dd a) :=
  ⟨⟨oe, vs, e, c, d, v⟩, ⟨oe, e⟩, fun _ _ ⟨o, u, q, r⟩ k => ⟨o, u, k o q, r⟩⟩
section
variable {X : Cx} {pins : List (Addr × Obj)} {σ : L2.St} {H : Hp} {s : Shared} {Q : VK} {C fI : Addr} {x f g : Str} {v u : V} {v' u' : Value}
/-- the made exception and its dict are taken into the abstract heap -/
theorem err_in {hp h' : Heap} {gs : Array GenState} {dr : Drawn} {tk tk' : Nat} {os : OsState} {e d : Addr} {fs : List (Str × V)} {mA : Str → Option Value} (I : Inv X pins σ H ⟨hp, gs, dr, tk, os⟩) (keep : ∀ b o, hp.get? b = some o → h'.get? b = some o) (new : hp.objs.size ≤ e)
    (obj : ∃ oe vs, h'.get? e = some oe ∧ oe.cls = .ref C ∧ oe.dict = some d ∧ oe.data = .fields vs) (dbig : hp.objs.size ≤ d) (dne : d ≠ e) (ns : h'.Ns1 d mA) (rel : ∀ y, RelO (fs.lookup y) (mA y))
    (h : Q (.ref e) (upd (upd H d (.xd fs)) e (DL.ErrO C (some d) e))) : EP X pins σ Q (.ref e) ⟨h', gs, dr, tk', os⟩ := by
  obtain ⟨oe, fv, hoe, hc, hd, hdat⟩ := obj
  obtain ⟨G', g1, g2⟩ := restrict h' fun b => decide (b ≠ e)
  have gk : ∀ b, b ≠ e → G'.get? b = h'.get? b := fun b hb => g1 b (decide_eq_true hb)
  have ge : G'.get? e = none := g2 e (by simp)
  have old : ∀ b o, hp.get? b = some o → G'.get? b = some o := fun b o q => (gk b (Nat.ne_of_lt (Nat.lt_of_lt_of_le (Heap.lt_size q) new))).trans (keep b o q)
  have ob : ObjOk X.prog X.w (upd H d (.xd fs)) G' d (.xd fs) := ⟨_, ns.at (fun o q => (gk d dne).trans q), rel⟩
  have J : Inv X pins σ (upd H d (.xd fs)) ⟨G', gs, dr, tk', os⟩ := I.laid (t' := tk') old dbig ob
  have ne : (upd H d (.xd fs)) e = none := by
    rw [upd_ne (Ne.symm dne)]
    exact I.hok.fresh new
  have J2 : Inv X pins σ (upd (upd H d (.xd fs)) e (DL.ErrO C (some d) e)) ⟨h', gs, dr, tk', os⟩ := J.laidN (t' := tk') (fun b o q => by
    by_cases hb : b = e
    · have q' : G'.get? b = some o := q
      rw [hb, ge] at q'; cases q'
    · exact (gk b hb).symm.trans q) ge ne (errO_ok hoe hc hd hdat)
  exact ⟨.ref e, _, J2, rfl, h⟩
/-- C called, one field -/
theorem err_call {k : Nat} (T : PySem.EX.ErrTxt X.prog X.K X.mg x f C fI) (hr : Room k X.A) (I : Inv X pins σ H s) (rv : RelV v v') {us : List Value} {kw : List (Str × Value)} (har : (us = [v'] ∧ kw = []) ∨ (us = [] ∧ kw = [(f, v')]))
    (h : ∀ a d, H a = none → H d = none → d ≠ a → Q (.ref a) (upd (upd H d (.xd [(f, v)])) a (DL.ErrO C (some d) a))) : wpAny (model X.prog X.w) X.A (call (.ref C) us kw) (EP X pins σ Q) X.xe s := by
  have hlim := I.nolimit
  have bk1 := I.bk
  obtain ⟨hp, gs, dr, tk, os⟩ := s
  refine wpAny_call (PySem.EX.err_made T I.ok.mod bk1 I.kIn hlim (by have := hr.dp; omega) har fun h' tk' e d M => ?_)
  obtain ⟨oe, fv, hoe, hc, hd, hdat, _⟩ := M.obj
  exact err_in I M.keep M.new ⟨oe, fv, hoe, hc, hd, hdat⟩ M.dbig M.dne M.ns (fun y => relO_err rv y) (h e d (I.hok.fresh M.new) (I.hok.fresh M.dbig) M.dne)
/-- .. two fields -/
theorem err_call2 {k : Nat} (T : PySem.EY.ErrTxt X.prog X.K X.mg x f g C fI) (hr : Room k X.A) (I : Inv X pins σ H s) (rv : RelV v v') (ru : RelV u u') {us : List Value} {kw : List (Str × Value)} (har : PySem.EY.ArgsOf f g v' u' [] ⟨us, kw⟩)
    (h : ∀ a d, H a = none → H d = none → d ≠ a → Q (.ref a) (upd (upd H d (.xd [(f, v), (g, u)])) a (DL.ErrO C (some d) a))) : wpAny (model X.prog X.w) X.A (call (.ref C) us kw) (EP X pins σ Q) X.xe s := by
  have hlim := I.nolimit
  have bk1 := I.bk
  obtain ⟨hp, gs, dr, tk, os⟩ := s
  refine wpAny_call (PySem.EY.err_made T I.ok.mod bk1 I.kIn hlim (by have := hr.dp; omega) har fun h' tk' e d M => ?_)
  obtain ⟨oe, fv, hoe, hc, hd, hdat, _⟩ := M.obj
  exact err_in I M.keep M.new ⟨oe, fv, hoe, hc, hd, hdat⟩ M.dbig M.dne M.ns (fun y => relO_err2 rv ru T.gf y) (h e d (I.hok.fresh M.new) (I.hok.fresh M.dbig) M.dne)
end
/-- C(e) -/
def tErr1 (C : Addr) (f : Str) (ta : TA) : TE := fun σ H Q => ta σ H fun vs H1 => ∃ v, vs = [v] ∧ ∀ a d, H1 a = none → H1 d = none → d ≠ a → Q (.ref a) (upd (upd H1 d (.xd [(f, v)])) a (DL.ErrO C (some d) a))
/-- C(e, ..), the fields handed in by sw in their order or the other way -/
def tErr2 (C : Addr) (f g : Str) (sw : Bool) (ta tk : TA) : TE := fun σ H Q => ta σ H fun vs H1 => tk σ H1 fun us H2 => ∃ v u, vs ++ us = (if sw then [u, v] else [v, u]) ∧ ∀ a d, H2 a = none → H2 d = none → d ≠ a → Q (.ref a) (upd (upd H2 d (.xd [(f, v), (g, u)])) a (DL.ErrO C (some d) a))
section
variable {X : Cx} {C fI : Addr} {x f g : Str} {k : Nat} {e : Expr} {es : List Expr} {kws : List Keyword} {ta tk : TA} {p pos : Pos}
theorem pe_err1 (T : PySem.EX.ErrTxt X.prog X.K X.mg x f C fI) (hr : Room k X.A) (hg : Gl X x) (ha : PA X [e] ta) (hdb : (x == ("__debug__" : Str)) = false := by decide)
    (he : starEach (e :: []) X.env = (false, eval e X.env) :: starEach [] X.env := by rfl) (hpl : (backTo pos (starEach [] X.env)).any (·.1) = false := by rfl) : PE X (.Call (.Name x p) [e] [] pos) (tErr1 C f ta) := by
  constructor
  intro pins s σ H Q I h
  refine wpAny_Call_Name_kw (ld_glob I hg T.gC (PySem.W.callWith_K (h₀ := X.base) I.ok.mod.kin T.kC (thn (ha.run pos pins s σ H _ I h) fun us s1 ⟨vs, H1, I1, r, v, ev, q⟩ => ⟨I1.kIn, ?_⟩) he hpl) hdb)
  subst ev
  cases r with
  | cons rv rn =>
    cases rn
    exact err_call T hr I1 rv (.inl ⟨rfl, rfl⟩) q
theorem pe_err1k (T : PySem.EX.ErrTxt X.prog X.K X.mg x f C fI) (hr : Room k X.A) (hg : Gl X x) (hkw : PK X kws tk) (hall : (backToKw pos (keywordEach kws X.env)).all (·.1.isSome) = true := by rfl)
    (hks : (backToKw pos (keywordEach kws X.env)).filterMap (·.1) = [f] := by rfl) (hdb : (x == ("__debug__" : Str)) = false := by decide) (hpl : ((backTo pos (starEach [] X.env)).any (·.1) || (backToKw pos (keywordEach kws X.env)).any (·.1.isNone)) = false := by rfl) :
    PE X (.Call (.Name x p) [] kws pos) (tErr1 C f tk) := by
  constructor
  intro pins s σ H Q I h
  refine wpAny_Call_Name_kw (ld_glob I hg T.gC (PySem.W.callWith_KW0 (h₀ := X.base) I.ok.mod.kin T.kC hall (thn (hkw.run pos pins s σ H _ I h) fun us s1 ⟨vs, H1, I1, r, v, ev, q⟩ => ⟨I1.kIn, ?_⟩) hpl) hdb)
  subst ev
  rw [hks]
  cases r with
  | cons rv rn =>
    cases rn
    exact err_call T hr I1 rv (.inr ⟨rfl, rfl⟩) q
theorem pa_none {Q : List V → Hp → Prop} {σ : L2.St} {H : Hp} (h : tNil σ H Q) : Q [] H := h
theorem pe_err2 {e2 : Expr} (T : PySem.EY.ErrTxt X.prog X.K X.mg x f g C fI) (hr : Room k X.A) (hg : Gl X x) (ha : PA X [e, e2] ta) (hdb : (x == ("__debug__" : Str)) = false := by decide)
    (he : starEach (e :: [e2]) X.env = (false, eval e X.env) :: starEach [e2] X.env := by exact DL.starEach_cons rfl) (hpl : (backTo pos (starEach [e2] X.env)).any (·.1) = false := by rfl) : PE X (.Call (.Name x p) [e, e2] [] pos) (tErr2 C f g false ta tNil) := by
  constructor
  intro pins s σ H Q I h
  refine wpAny_Call_Name_kw (ld_glob I hg T.gC (PySem.W.callWith_K (h₀ := X.base) I.ok.mod.kin T.kC (thn (ha.run pos pins s σ H _ I h) fun us s1 ⟨vs, H1, I1, r, q⟩ => ⟨I1.kIn, ?_⟩) he hpl) hdb)
  obtain ⟨v, u, ev, q2⟩ := pa_none q
  rw [List.append_nil] at ev
  obtain rfl : vs = [v, u] := ev
  cases r with
  | cons rv rn =>
    cases rn with
    | cons ru rn =>
      cases rn
      exact err_call2 T hr I1 rv ru .pos q2
def tErr2m (C : Addr) (f g : Str) (ta tk : TA) : TE := fun σ H Q => ta σ H fun vs H1 => vs.length = 1 ∧ tk σ H1 fun us H2 => ∃ v u, vs ++ us = [v, u] ∧ ∀ a d, H2 a = none → H2 d = none → d ≠ a → Q (.ref a) (upd (upd H2 d (.xd [(f, v), (g, u)])) a (DL.ErrO C (some d) a))
theorem pe_err2m (T : PySem.EY.ErrTxt X.prog X.K X.mg x f g C fI) (hr : Room k X.A) (hg : Gl X x) (ha : PA X [e] ta) (hkw : PK X kws tk) (hall : (backToKw pos (keywordEach kws X.env)).all (·.1.isSome) = true := by rfl)
    (hks : (backToKw pos (keywordEach kws X.env)).filterMap (·.1) = [g] := by rfl) (hdb : (x == ("__debug__" : Str)) = false := by decide) (he : starEach (e :: []) X.env = (false, eval e X.env) :: starEach [] X.env := by rfl)
    (hpl : ((backTo pos (starEach (e :: []) X.env)).any (·.1) || (backToKw pos (keywordEach kws X.env)).any (·.1.isNone)) = false := by rfl) :
    PE X (.Call (.Name x p) [e] kws pos) (tErr2m C f g ta tk) := by
  constructor
  intro pins s σ H Q I h
  refine wpAny_Call_Name_kw (ld_glob I hg T.gC (PySem.W.callWith_KW (h₀ := X.base) I.ok.mod.kin T.kC hall (thn (ha.run pos pins s σ H _ I h) fun us s1 ⟨vs, H1, I1, r, l1, q⟩ => ?_) hpl he) hdb)
  refine thn (hkw.run pos pins s1 σ H1 _ I1 q) fun ws s2 ⟨zs, H2, I2, rz, v, u, ev, q2⟩ => ⟨I2.kIn, ?_⟩
  rw [hks]
  match vs, l1 with
  | [v1], _ =>
    have ev : v1 :: zs = [v, u] := ev
    injection ev with e1 e2
    subst e1; subst e2
    cases r with
    | cons rv rn =>
      cases rn
      cases rz with
      | cons ru rn =>
        cases rn
        have rv2 : RelV v1 _ := rv
        exact err_call2 T hr I2 rv ru .mix q2
theorem pe_err2k {sw : Bool} (T : PySem.EY.ErrTxt X.prog X.K X.mg x f g C fI) (hr : Room k X.A) (hg : Gl X x) (hkw : PK X kws tk) (hall : (backToKw pos (keywordEach kws X.env)).all (·.1.isSome) = true := by rfl)
    (hks : (backToKw pos (keywordEach kws X.env)).filterMap (·.1) = (if sw then [g, f] else [f, g]) := by rfl) (hdb : (x == ("__debug__" : Str)) = false := by decide)
    (hpl : ((backTo pos (starEach [] X.env)).any (·.1) || (backToKw pos (keywordEach kws X.env)).any (·.1.isNone)) = false := by rfl) :
    PE X (.Call (.Name x p) [] kws pos) (tErr2 C f g sw tNil tk) := by
  constructor
  intro pins s σ H Q I h
  refine wpAny_Call_Name_kw (ld_glob I hg T.gC (PySem.W.callWith_KW0 (h₀ := X.base) I.ok.mod.kin T.kC hall (thn (hkw.run pos pins s σ H _ I (pa_none h)) fun us s1 ⟨zs, H2, I2, rz, v, u, ev, q2⟩ => ⟨I2.kIn, ?_⟩) hpl) hdb)
  rw [hks]
  have ev : zs = _ := ev
  cases sw with
  | true =>
    subst ev
    cases rz with
    | cons ru rn =>
      cases rn with
      | cons rv rn =>
        cases rn
        exact err_call2 T hr I2 rv ru .rev q2
  | false =>
    subst ev
    cases rz with
    | cons rv rn =>
      cases rn with
      | cons ru rn =>
        cases rn
        exact err_call2 T hr I2 rv ru .kws q2
end
end L2
/-! ### plain errors: no own __init__ -/
namespace PySem
namespace EK
open PySem.W PySem.Calls PyProof.Rows PySem.HandSPX
structure Err0 (P : Program) (K : Frag) (mg : Str → Option Value) (x : Str) (C : Addr) : Prop where
  gC : mg x = some (.ref C)
  cls : ∃ nm q N bs bm sn sub ab col dd k0 k1 k2 k3 k5, K.lookup C = some (excClassObj nm q C N bs bm true sn sub ab col dd k0 k1 k2 k3 k5 "ValueError.__new__") ∧ refsVE bm = true
  iC : findIn K (.ref C) "__init__" = some (some (.builtin "ValueError.__init__"))
  kC : keepIn K (.ref C) = true
  exC : subIn K (.ref C) (.type "BaseException") = some true
  tyC : typeIn K (.ref C) = some (.type "type")
section
variable {prog : Program} {w : World} {A : Around} {E : Value → Shared → Prop} {R : Result → Shared → Prop} {s : Shared} {K : Frag} {mg : Str → Option Value} {x : Str} {C : Addr}
/-- a made one -/
structure Made0 (h h' : Heap) (e C : Addr) : Prop where
  keep : ∀ b o, h.get? b = some o → h'.get? b = some o
  new : h.objs.size ≤ e
  obj : ∃ oe vs, h'.get? e = some oe ∧ oe.cls = .ref C ∧ oe.dict = none ∧ oe.data = .fields vs ∧ vs[1]? = some .none
theorem made0 (T : Err0 prog K mg x C) (X : K.In s.heap) (hq : ∀ h' tk e, Made0 s.heap h' e C → R (.ok (.ret (.ref e))) { s with heap := h', toks := tk }) : codeAny (model prog w) A (.call (.ref C) ⟨[], []⟩) R s := by
  obtain ⟨nm, q, N, bs, bm, sn, sub, ab, col, dd, k0, k1, k2, k3, k5, hC, hbm⟩ := T.cls
  obtain ⟨hp, g, dr, tk, os⟩ := s
  have k : ∀ b o, hp.get? b = some o → ((hp.push (kdv_tup [])).push (excO C hp.objs.size)).get? b = some o := fun b o e => Heap.get?_push_of_some _ (Heap.get?_push_of_some _ e)
  have hget : ((hp.push (kdv_tup [])).push (excO C hp.objs.size)).get? (hp.objs.size + 1) = some (excO C hp.objs.size) := by heap_get
  refine call_kw (fI := .builtin "ValueError.__init__") F.excBase_ValueError (fun X => refsVE_contains X bm hbm) (X _ _ hC) (looks_findIn X T.iC) (fun self A Q E s k q => wpAny_of_eq (F.excBase_ValueError.init.bind self) q) (Nat.zero_le _) ?_
  refine init_base F.excBase_ValueError (fun Y => refsVE_contains Y bm hbm) (k _ _ (X _ _ hC)) hget (Nat.zero_le _) fun h' t1 k2 hx => ?_
  exact ⟨rfl, hq h' tk (hp.objs.size + 1) ⟨fun b o e => k2 b o (Nat.ne_of_lt (Nat.lt_succ_of_lt (Heap.lt_size e))) (k b o e), Nat.le_succ _, ⟨_, _, hx, rfl, rfl, rfl, rfl⟩⟩⟩
end
end EK
end PySem
namespace L2
open PySem PySem.Spec PyProof.Rows
def tErr0 (C : Addr) : TE := fun _ H Q => ∀ a, H a = none → Q (.ref a) (upd H a (DL.ErrO C none a))
section
variable {X : Cx} {C : Addr} {x : Str} {p pos : Pos}
theorem pe_err0 (T : PySem.EK.Err0 X.prog X.K X.mg x C) (hg : Gl X x) (hdb : (x == ("__debug__" : Str)) = false := by decide) : PE X (.Call (.Name x p) [] [] pos) (tErr0 C) := by
  constructor
  intro pins s σ H Q I h
  refine wpAny_Call_Name_kw (ld_glob I hg T.gC (PySem.W.callWith_K0 I.kIn T.kC ?_) hdb)
  have kin := I.kIn
  have fr := I.hok
  obtain ⟨hp, gs, dr, tk, os⟩ := s
  refine wpAny_call (PySem.EK.made0 T kin fun h' tk' e M => ?_)
  obtain ⟨oe, fv, hoe, hc, hd, hdat, _⟩ := M.obj
  have J := I.laid (t' := tk') M.keep M.new (errO_ok hoe hc hd hdat)
  exact ⟨.ref e, _, J, rfl, h e (fr.fresh M.new)⟩
theorem pmk_err0 (T : PySem.EK.Err0 X.prog X.K X.mg x C) (hg : Gl X x) (hdb : (x == ("__debug__" : Str)) = false := by decide) : PMk X (.Call (.Name x p) [] [] pos) (fun _ H Q => Q (.ref C) none H) := by
  intro pins s σ H Q I h
  refine wpAny_Call_Name_kw (ld_glob I hg T.gC (PySem.W.callWith_K0 I.kIn T.kC ?_) hdb)
  have kin := I.kIn
  have fr := I.hok
  have br := I.bare
  obtain ⟨hp, gs, dr, tk, os⟩ := s
  refine wpAny_call (PySem.EK.made0 T kin fun h' tk' e M => ?_)
  show MkP X pins σ Q (.ref e) ⟨h', gs, dr, tk', os⟩
  obtain ⟨oe, fv, hoe, hc, hd, hdat, h1⟩ := M.obj
  obtain ⟨G', g1, g2⟩ := restrict h' fun b => decide (b ≠ e)
  have gk : ∀ b, b ≠ e → G'.get? b = h'.get? b := fun b hb => g1 b (decide_eq_true hb)
  have ge : G'.get? e = none := g2 e (by simp)
  have old : ∀ b o, hp.get? b = some o → G'.get? b = some o := fun b o q => (gk b (Nat.ne_of_lt (Nat.lt_of_lt_of_le (Heap.lt_size q) M.new))).trans (M.keep b o q)
  have J : Inv X pins σ H ⟨G', gs, dr, tk', os⟩ := I.kept (t' := tk') old
  refine ⟨e, oe, fv, ⟨G', gs, dr, tk', os⟩, _, .ref C, none, rfl, J, fun b o q => ?_, ge, hoe, ⟨hc, hd⟩, hdat, h1, fr.fresh M.new, rfl, br, raises_own T.exC T.tyC, h⟩
  by_cases hb : b = e
  · have q' : G'.get? b = some o := q
    rw [hb, ge] at q'; cases q'
  · exact (gk b hb).symm.trans q
end
/-! ### a field, a kind -/
def tErrF (K : PySem.W.Frag) (f : Str) (te : TE) : TE := fun σ H Q => te σ H fun x H1 => ∃ (a C d : Addr) (fs : List (Str × V)) (v : V), x = .ref a ∧ H1 a = some (DL.ErrO C (some d) a) ∧ H1 d = some (.xd fs) ∧ fs.lookup f = some v ∧ XfC K C ∧ PySem.W.findIn K (.ref C) f = some none ∧ Q v H1
theorem errO_at {P : Program} {w : World} {H : Hp} {h : Heap} {a C : Addr} {dd : Option Addr} (hok : HOk P w H h) (e : H a = some (DL.ErrO C dd a)) : ∃ oe vs, h.get? a = some oe ∧ oe.cls = .ref C ∧ oe.dict = dd ∧ oe.data = .fields vs := by
  have x : ObjOk P w H h a (.ext fun h => ∃ (oe : Obj) (vs : Array Value), h.get? a = some oe ∧ oe.cls = .ref C ∧ oe.dict = dd ∧ oe.data = .fields vs) := hok a _ e
  exact x.1
section
variable {X : Cx} {e : Expr} {te : TE} {f : Str} {pos : Pos}
theorem pe_errF (he : PE X e te) (hb : attributeBase e f X.env (eval e X.env) = eval e X.env := by rfl) : PE X (.Attribute e f pos) (tErrF X.K f te) := by
  refine ⟨fun pins s σ H Q I h => ?_⟩
  refine attr_of hb (thn (he.run pins s σ H _ I h) fun u s1 hh => ?_)
  obtain ⟨x, H1, I1, rx, a, C, d, fs, v, rfl, ea, ed, l, T, hno, q⟩ := hh
  obtain rfl : u = Value.ref a := rx
  obtain ⟨oe, vs, h1, h2, h3, h4⟩ := errO_at I1.hok ea
  have hx : ObjOk X.prog X.w H1 s1.heap d (.xd fs) := I1.hok d _ ed
  obtain ⟨mA, hns, hr⟩ := hx
  obtain ⟨od, ho, hl⟩ := lookIn_ns hns
  obtain ⟨u, hu, ru⟩ := RelO.some_of (v := v) (o := mA f) (by rw [← l]; exact hr f)
  have J : PySem.W.InstAt s1.heap a oe C (some od) := ⟨h1, h2, by unfold PySem.W.notCls; rw [h4] <;> rfl, by rw [h3]; exact ho⟩
  exact HandSPX.exc_get I1.kIn J T.ga T.gg T.exC (PySem.W.findObj_own T.hdC hno rfl (by rw [hl, hu])) (handed_of ru) ⟨v, H1, I1.tok _, ru, q⟩
/-- isinstance(e, c), e an error -/
def rIsErr (K : PySem.W.Frag) : List V → Hp → VK → Prop := fun xs H Q => ∃ (a C : Addr) (dd : Option Addr) (c : V) (cv : Value) (b : Bool), xs = [.ref a, c] ∧ H a = some (DL.ErrO C dd a) ∧ (dd = none ∨ ∃ d fs, dd = some d ∧ H d = some (.xd fs)) ∧ ExcC K C ∧ (∀ u, RelV c u → u = cv) ∧ PySem.W.kitOne K (.ref C) cv = some b ∧ Q (.bl b) H
theorem call_isErr : CallR X (.builtin "isinstance") (rIsErr X.K) := by
  intro pins s σ H xs us Q I r h
  obtain ⟨a, D, dd, c, cv, b, rfl, ea, hx, C, hcv, e, q⟩ := h
  cases r with
  | cons rx rr =>
    cases rr with
    | cons rt rr =>
      cases rr
      cases rx
      have ec := hcv _ rt
      subst ec
      obtain ⟨oe, vs, h1, h2, h3, h4⟩ := errO_at I.hok ea
      rcases hx with rfl | ⟨d, fs, rfl, hx⟩
      · have J : PySem.W.InstAt s.heap a oe D none := by
          obtain ⟨oc, od, oda, osl⟩ := oe
          dsimp only at h2 h3 h4
          subst h2 h3 h4
          exact ⟨h1, rfl, rfl, trivial⟩
        exact PySem.W.kia_one (PySem.W.handS_kitx_exc C.hg C.hk C.hs C.hd C.ha C.hn C.ht C.hm) I.kIn J e (fun z => nomatch z) fun tk => ⟨.bl b, H, I.kept (t' := tk) fun _ _ z => z, rfl, q⟩
      · obtain ⟨mA, hns, hr⟩ := (show ObjOk X.prog X.w H s.heap d (.xd fs) from I.hok d _ hx)
        obtain ⟨od, ho, hl⟩ := lookIn_ns hns
        have J : PySem.W.InstAt s.heap a oe D (some od) := by
          obtain ⟨oc, od', oda, osl⟩ := oe
          dsimp only at h2 h3 h4
          subst h2 h3 h4
          exact ⟨h1, rfl, rfl, ho⟩
        obtain ⟨cd, hc, _⟩ := PySem.W.any_some C.hd
        exact PySem.W.kia_one (PySem.W.kitx_exc (by rw [hc]; rfl) C.hg C.hk C.hs C.ha C.hn C.ht C.hm) I.kIn J e (fun z => nomatch z) fun tk => ⟨.bl b, H, I.kept (t' := tk) fun _ _ z => z, rfl, q⟩
end
end L2

set_option Elab.async false
set_option linter.all false
set_option maxRecDepth 100000
set_option maxHeartbeats 4000000
set_option autoImplicit false
/-! Own errors as values, over trees. -/
namespace L2
open PySem PySem.Spec PyProof.Rows
section
variable {X : Cx} {C fI : Addr} {x f g : Str} {k : Nat} {kws : List Keyword} {tk : TA} {p pos : Pos} {pins : List (Addr × Obj)} {σ : L2.St} {H : Hp} {s : Shared} {Q : XK} {v u : V} {v' u' : Value}
theorem err_mk2 (T : PySem.EY.ErrTxt X.prog X.K X.mg x f g C fI) (hr : Room k X.A) (I1 : Inv X pins σ H s) (rv : RelV v v') (ru : RelV u u') {us : List Value} {kw : List (Str × Value)} (har : PySem.EY.ArgsOf f g v' u' [] ⟨us, kw⟩)
    (h : ∀ d, H d = none → Q (.ref C) (some d) (upd H d (.xd [(f, v), (g, u)]))) : wpAny (model X.prog X.w) X.A (call (.ref C) us kw) (MkP X pins σ Q) X.xe s := by
  have hlim := I1.nolimit
  have bk1 := I1.bk
  obtain ⟨hp, gs, dr, tk, os⟩ := s
  refine wpAny_call (PySem.EY.err_made T I1.ok.mod bk1 I1.kIn hlim (by have := hr.dp; omega) har fun h' tk' e d M => ?_)
  show MkP X pins σ Q (.ref e) ⟨h', gs, dr, tk', os⟩
  obtain ⟨oe, fv, hoe, hc, hd, hdat, h1⟩ := M.obj
  have hns := M.ns
  obtain ⟨G', g1, g2⟩ := restrict h' fun b => decide (b ≠ e)
  have gk : ∀ b, b ≠ e → G'.get? b = h'.get? b := fun b hb => g1 b (decide_eq_true hb)
  have ge : G'.get? e = none := g2 e (by simp)
  have old : ∀ b o, hp.get? b = some o → G'.get? b = some o := fun b o q => (gk b (Nat.ne_of_lt (Nat.lt_of_lt_of_le (Heap.lt_size q) M.new))).trans (M.keep b o q)
  have ob : ObjOk X.prog X.w (upd H d (.xd [(f, v), (g, u)])) G' d (.xd [(f, v), (g, u)]) := ⟨_, hns.at (fun o q => (gk d M.dne).trans q), fun y => relO_err2 rv ru T.gf y⟩
  have J : Inv X pins σ (upd H d (.xd [(f, v), (g, u)])) ⟨G', gs, dr, tk', os⟩ := I1.laid (t' := tk') old M.dbig ob
  refine ⟨e, oe, fv, ⟨G', gs, dr, tk', os⟩, _, .ref C, some d, rfl, J, fun b o q => ?_, ge, hoe, ⟨hc, hd⟩, hdat, h1, ?_, rfl, I1.bare, raises_own T.exC T.tyC, h d (I1.hok.fresh M.dbig)⟩
  · by_cases hb : b = e
    · have q' : G'.get? b = some o := q
      rw [hb, ge] at q'; cases q'
    · exact (gk b hb).symm.trans q
  · rw [upd_ne (Ne.symm M.dne)]
    exact I1.hok.fresh M.new
def tMkErr2k (f g : Str) (sw : Bool) (C : Addr) (tk : TA) : St → Hp → XK → Prop := fun σ H Q => tk σ H fun vs H1 => ∃ v u, vs = (if sw then [u, v] else [v, u]) ∧ ∀ d, H1 d = none → Q (.ref C) (some d) (upd H1 d (.xd [(f, v), (g, u)]))
theorem pmk_err2k {sw : Bool} (T : PySem.EY.ErrTxt X.prog X.K X.mg x f g C fI) (hr : Room k X.A) (hg : Gl X x) (hkw : PK X kws tk) (hall : (backToKw pos (keywordEach kws X.env)).all (·.1.isSome) = true := by rfl)
    (hks : (backToKw pos (keywordEach kws X.env)).filterMap (·.1) = (if sw then [g, f] else [f, g]) := by rfl) (hdb : (x == ("__debug__" : Str)) = false := by decide)
    (hpl : ((backTo pos (starEach [] X.env)).any (·.1) || (backToKw pos (keywordEach kws X.env)).any (·.1.isNone)) = false := by rfl) :
    PMk X (.Call (.Name x p) [] kws pos) (tMkErr2k f g sw C tk) := by
  intro pins s σ H Q I h
  refine wpAny_Call_Name_kw (ld_glob I hg T.gC (PySem.W.callWith_KW0 (h₀ := X.base) I.ok.mod.kin T.kC hall (thn (hkw.run pos pins s σ H _ I h) fun us s1 ⟨zs, H2, I2, rz, v, u, ev, q2⟩ => ⟨I2.kIn, ?_⟩) hpl) hdb)
  rw [hks]
  have ev : zs = _ := ev
  cases sw with
  | true =>
    subst ev
    cases rz with
    | cons ru rn =>
      cases rn with
      | cons rv rn =>
        cases rn
        exact err_mk2 T hr I2 rv ru .rev q2
  | false =>
    subst ev
    cases rz with
    | cons rv rn =>
      cases rn with
      | cons ru rn =>
        cases rn
        exact err_mk2 T hr I2 rv ru .kws q2
end
end L2
namespace DL
open PySem PySem.Spec PyProof.Rows L2
theorem notTbl_err {C : Addr} {dd : Option Addr} {a : Addr} : notTbl (ErrO C dd a) := fun ps z => by
  have z' : HO.ext _ = HO.tbl ps := z
  cases z'
section
variable {X : Cx} {M : LK} {W : WX} {C fI : Addr} {x f g : Str} {e : Expr} {es : List Expr} {kws : List Keyword} {fa fk : DTA} {k : Nat} {p pos : Pos}
variable {pn : Addr} {G G1 H H1 : Hp} {n : NS} {σ : L2.St} {δ : DEnv}
/-- an error laid -/
theorem Rep.err {a d : Addr} {fs : List (Str × V)} {xs : List D} (R : Rep M pn G n σ δ H) (ha : H a = none) (hd : H d = none) (ne : d ≠ a) (i : IsL M G (fs.map (·.2)) xs) :
    ∃ G1, Rep M pn G1 n σ δ (upd (upd H d (.xd fs)) a (ErrO C (some d) a)) ∧ Adv pn G H G1 (upd (upd H d (.xd fs)) a (ErrO C (some d) a)) ∧ Is M G1 (.ref a) (.err C (fs.map (·.1)) xs) := by
  obtain ⟨R2, A2⟩ := R.lay (o := .xd fs) hd notTbl_xd
  have na : (upd H d (.xd fs)) a = none := by rw [upd_ne (Ne.symm ne)]; exact ha
  obtain ⟨R3, A3⟩ := R2.lay (o := ErrO C (some d) a) na notTbl_err
  have A := R.tr A2 A3
  refine ⟨_, R3, A, ?_⟩
  simp only [Is]
  exact ⟨a, some d, fs, rfl, upd_same, (show upd _ a _ d = some (.xd fs) by rw [upd_ne ne, upd_same]), rfl, IsL.up A.ge _ _ i⟩
/-- C(e), C an own error of one field f -/
def dErr1 (C : Addr) (f : Str) (fa : DTA) : DTE := fun δ n q e => fa δ n (fun xs n1 => ∃ d, xs = [d] ∧ q (.err C [f] [d]) n1) e
theorem err1_lift (σ : L2.St) (H : Hp) (Q : VK) (h : liftE M W (dErr1 C f fa) σ H Q) : tErr1 C f (liftA M W fa) σ H Q := by
  obtain ⟨pn, G, n, δ, q, e, R, hf, hQ, hX⟩ := h
  refine ⟨pn, G, n, δ, _, e, R, hf, fun G1 vs ds n1 H1 A1 R1 i1 h1 => ?_, hX⟩
  obtain ⟨d, rfl, h1⟩ := h1
  obtain ⟨v, rfl, iv⟩ := i1.one
  refine ⟨v, rfl, fun a b ha hb ne => ?_⟩
  obtain ⟨G2, R2, A2, i2⟩ := R1.err (fs := [(f, v)]) (xs := [d]) ha hb ne (by simp only [List.map, IsL]; exact ⟨iv, trivial⟩)
  exact hQ G2 _ _ n1 _ (R.tr A1 A2) R2 i2 h1
theorem dp_err1 (T : PySem.EX.ErrTxt X.prog X.K X.mg x f C fI) (hr : Room k X.A) (hg : Gl X x) (ha : PA X [e] (liftA M W fa)) (hdb : (x == ("__debug__" : Str)) = false := by decide)
    (he : starEach (e :: []) X.env = (false, eval e X.env) :: starEach [] X.env := by rfl) (hpl : (backTo pos (starEach [] X.env)).any (·.1) = false := by rfl) : PE X (.Call (.Name x p) [e] [] pos) (liftE M W (dErr1 C f fa)) := PEw (pe_err1 T hr hg ha hdb he hpl) err1_lift
theorem dp_err1k (T : PySem.EX.ErrTxt X.prog X.K X.mg x f C fI) (hr : Room k X.A) (hg : Gl X x) (hkw : PK X kws (liftA M W fa)) (hall : (backToKw pos (keywordEach kws X.env)).all (·.1.isSome) = true := by rfl)
    (hks : (backToKw pos (keywordEach kws X.env)).filterMap (·.1) = [f] := by rfl) (hdb : (x == ("__debug__" : Str)) = false := by decide) (hpl : ((backTo pos (starEach [] X.env)).any (·.1) || (backToKw pos (keywordEach kws X.env)).any (·.1.isNone)) = false := by rfl) :
    PE X (.Call (.Name x p) [] kws pos) (liftE M W (dErr1 C f fa)) := PEw (pe_err1k T hr hg hkw hall hks hdb hpl) err1_lift
/-- C(e, ..), C an own error of two fields -/
def dErr2 (C : Addr) (f g : Str) (sw : Bool) (fa fk : DTA) : DTE := fun δ n q e => fa δ n (fun xs n1 => fk δ n1 (fun ys n2 => ∃ d1 d2, xs ++ ys = (if sw then [d2, d1] else [d1, d2]) ∧ q (.err C [f, g] [d1, d2]) n2) e) e
theorem err2_lift {sw : Bool} (σ : L2.St) (H : Hp) (Q : VK) (h : liftE M W (dErr2 C f g sw fa fk) σ H Q) : tErr2 C f g sw (liftA M W fa) (liftA M W fk) σ H Q := by
  obtain ⟨pn, G, n, δ, q, e, R, hf, hQ, hX⟩ := h
  refine ⟨pn, G, n, δ, _, e, R, hf, fun G1 vs ds n1 H1 A1 R1 i1 h1 => ?_, hX⟩
  refine ⟨pn, G1, n1, δ, _, e, R1, h1, fun G2 us es n2 H2 A2 R2 i2 h2 => ?_, hX.on R A1⟩
  obtain ⟨d1, d2, he, h2⟩ := h2
  have i12 := IsL.append (IsL.up A2.ge _ _ i1) i2
  rw [he] at i12
  have A12 := R.tr A1 A2
  cases sw with
  | true =>
    obtain ⟨u, v, e1, iu, iv⟩ := i12.two
    refine ⟨v, u, e1, fun a b ha hb ne => ?_⟩
    obtain ⟨G3, R3, A3, i3⟩ := R2.err (fs := [(f, v), (g, u)]) (xs := [d1, d2]) ha hb ne (by simp only [List.map, IsL]; exact ⟨iv, iu, trivial⟩)
    exact hQ G3 _ _ n2 _ (R.tr A12 A3) R3 i3 h2
  | false =>
    obtain ⟨v, u, e1, iv, iu⟩ := i12.two
    refine ⟨v, u, e1, fun a b ha hb ne => ?_⟩
    obtain ⟨G3, R3, A3, i3⟩ := R2.err (fs := [(f, v), (g, u)]) (xs := [d1, d2]) ha hb ne (by simp only [List.map, IsL]; exact ⟨iv, iu, trivial⟩)
    exact hQ G3 _ _ n2 _ (R.tr A12 A3) R3 i3 h2
theorem nil_lift {q : List D → NS → Prop} {ex : DX} {P : List V → Hp → Prop} (R : Rep M pn G n σ δ H) (h : q [] n) (hQ : ∀ G' vs ds n' H', Adv pn G H G' H' → Rep M pn G' n' σ δ H' → IsL M G' vs ds → q ds n' → P vs H') : P [] H := hQ G [] [] n H Adv.refl R (by simp only [IsL]) h
theorem dp_err2 {e2 : Expr} (T : PySem.EY.ErrTxt X.prog X.K X.mg x f g C fI) (hr : Room k X.A) (hg : Gl X x) (ha : PA X [e, e2] (liftA M W fa)) (hdb : (x == ("__debug__" : Str)) = false := by decide)
    (he : starEach (e :: [e2]) X.env = (false, eval e X.env) :: starEach [e2] X.env := by exact DL.starEach_cons rfl) (hpl : (backTo pos (starEach [e2] X.env)).any (·.1) = false := by rfl) : PE X (.Call (.Name x p) [e, e2] [] pos) (liftE M W (dErr2 C f g false fa dNil)) :=
  PEw (pe_err2 T hr hg ha hdb he hpl) fun σ H Q h => by
    obtain ⟨pn, G, n, δ, q, ex, R, hf, hQ, hX⟩ := err2_lift σ H Q h
    refine ⟨pn, G, n, δ, q, ex, R, hf, fun G' vs ds n' H' A' R' i' h' => ?_, hX⟩
    obtain ⟨pn2, G2, n2, δ2, q2, ex2, R2, hf2, hQ2, _⟩ := hQ G' vs ds n' H' A' R' i' h'
    exact hQ2 G2 [] [] n2 H' Adv.refl R2 (by simp only [IsL]) hf2
def dErr2m (C : Addr) (f g : Str) (fa fk : DTA) : DTE := fun δ n q e => fa δ n (fun xs n1 => xs.length = 1 ∧ fk δ n1 (fun ys n2 => ∃ d1 d2, xs ++ ys = [d1, d2] ∧ q (.err C [f, g] [d1, d2]) n2) e) e
theorem dp_err2m (T : PySem.EY.ErrTxt X.prog X.K X.mg x f g C fI) (hr : Room k X.A) (hg : Gl X x) (ha : PA X [e] (liftA M W fa)) (hkw : PK X kws (liftA M W fk)) (hall : (backToKw pos (keywordEach kws X.env)).all (·.1.isSome) = true := by rfl)
    (hks : (backToKw pos (keywordEach kws X.env)).filterMap (·.1) = [g] := by rfl) (hdb : (x == ("__debug__" : Str)) = false := by decide) (he : starEach (e :: []) X.env = (false, eval e X.env) :: starEach [] X.env := by rfl)
    (hpl : ((backTo pos (starEach (e :: []) X.env)).any (·.1) || (backToKw pos (keywordEach kws X.env)).any (·.1.isNone)) = false := by rfl) :
    PE X (.Call (.Name x p) [e] kws pos) (liftE M W (dErr2m C f g fa fk)) :=
  PEw (pe_err2m T hr hg ha hkw hall hks hdb he hpl) fun σ H Q ⟨pn, G, n, δ, q, e, R, hf, hQ, hX⟩ => by
    refine ⟨pn, G, n, δ, _, e, R, hf, fun G1 vs ds n1 H1 A1 R1 i1 h1 => ?_, hX⟩
    refine ⟨i1.length.trans h1.1, pn, G1, n1, δ, _, e, R1, h1.2, fun G2 us es n2 H2 A2 R2 i2 h2 => ?_, hX.on R A1⟩
    obtain ⟨d1, d2, he, h2⟩ := h2
    have i12 := IsL.append (IsL.up A2.ge _ _ i1) i2
    rw [he] at i12
    have A12 := R.tr A1 A2
    obtain ⟨v, u, e1, iv, iu⟩ := i12.two
    refine ⟨v, u, e1, fun a b ha hb ne => ?_⟩
    obtain ⟨G3, R3, A3, i3⟩ := R2.err (fs := [(f, v), (g, u)]) (xs := [d1, d2]) ha hb ne (by simp only [List.map, IsL]; exact ⟨iv, iu, trivial⟩)
    exact hQ G3 _ _ n2 _ (R.tr A12 A3) R3 i3 h2
theorem dp_err2k {sw : Bool} (T : PySem.EY.ErrTxt X.prog X.K X.mg x f g C fI) (hr : Room k X.A) (hg : Gl X x) (hkw : PK X kws (liftA M W fk)) (hall : (backToKw pos (keywordEach kws X.env)).all (·.1.isSome) = true := by rfl)
    (hks : (backToKw pos (keywordEach kws X.env)).filterMap (·.1) = (if sw then [g, f] else [f, g]) := by rfl) (hdb : (x == ("__debug__" : Str)) = false := by decide)
    (hpl : ((backTo pos (starEach [] X.env)).any (·.1) || (backToKw pos (keywordEach kws X.env)).any (·.1.isNone)) = false := by rfl) :
    PE X (.Call (.Name x p) [] kws pos) (liftE M W (dErr2 C f g sw dNil fk)) :=
  PEw (pe_err2k (sw := sw) T hr hg hkw hall hks hdb hpl) fun σ H Q h => by
    obtain ⟨pn, G, n, δ, q, e, R, hf, hQ, hX⟩ := h
    refine err2_lift (fa := dNil) (fk := fk) (M := M) (W := W) σ H Q ⟨pn, G, n, δ, q, e, R, hf, hQ, hX⟩ |> fun z => ?_
    obtain ⟨pn2, G2, n2, δ2, q2, e2, R2, hf2, hQ2, _⟩ := z
    exact hQ2 G2 [] [] n2 H Adv.refl R2 (by simp only [IsL]) hf2
/-- C(), C a plain error -/
def dErr0 (C : Addr) : DTE := fun δ n q e => q (.err C [] []) n
theorem dp_err0 (T : PySem.EK.Err0 X.prog X.K X.mg x C) (hg : Gl X x) (hdb : (x == ("__debug__" : Str)) = false := by decide) : PE X (.Call (.Name x p) [] [] pos) (liftE M W (dErr0 C)) :=
  PEw (pe_err0 T hg hdb) fun σ H Q ⟨pn, G, n, δ, q, e, R, hf, hQ, hX⟩ => fun a ha => by
    obtain ⟨R2, A2⟩ := R.lay (o := ErrO C none a) ha notTbl_err
    exact hQ _ (.ref a) (.err C [] []) n _ A2 R2 (by simp only [Is]; exact ⟨a, none, [], rfl, upd_same, rfl, rfl, by simp only [List.map, IsL]⟩) hf
/-- raise C(), C a plain error -/
def dRaise0 (C : Addr) : DTS := fun k δ n => k.ex δ C [] [] n
theorem ds_raise0 {pos2 : Pos} (hc : X.calm = true) (T : PySem.EK.Err0 X.prog X.K X.mg x C) (tk : Takes X W) (hg : Gl X x) (hdb : (x == ("__debug__" : Str)) = false := by decide) : PS X (.Raise (some (.Call (.Name x p) [] [] pos)) none pos2) (liftS M W (dRaise0 C)) :=
  PSw (ps_raise hc tk (pmk_err0 T hg hdb)) fun D₀ σ H ⟨pn, G, n, δ, k, R, hf, s⟩ => s.ex G σ δ C none [] [] n H Adv.refl R ⟨[], rfl, rfl, by simp only [List.map, IsL]⟩ hf
/-- raise C(g = .., f = ..) -/
def dRaise2k (C : Addr) (f g : Str) (sw : Bool) (fk : DTA) : DTS := fun k δ n => fk δ n (fun xs n1 => ∃ d1 d2, xs = (if sw then [d2, d1] else [d1, d2]) ∧ k.ex δ C [f, g] [d1, d2] n1) k.ex
theorem ds_raise2k {pos2 : Pos} {sw : Bool} (hc : X.calm = true) (T : PySem.EY.ErrTxt X.prog X.K X.mg x f g C fI) (hr : Room k X.A) (tk : Takes X W) (hg : Gl X x) (hkw : PK X kws (liftA M W fk)) (hall : (backToKw pos (keywordEach kws X.env)).all (·.1.isSome) = true := by rfl)
    (hks : (backToKw pos (keywordEach kws X.env)).filterMap (·.1) = (if sw then [g, f] else [f, g]) := by rfl) (hdb : (x == ("__debug__" : Str)) = false := by decide)
    (hpl : ((backTo pos (starEach [] X.env)).any (·.1) || (backToKw pos (keywordEach kws X.env)).any (·.1.isNone)) = false := by rfl) :
    PS X (.Raise (some (.Call (.Name x p) [] kws pos)) none pos2) (liftS M W (dRaise2k C f g sw fk)) :=
  PSw (ps_raise hc tk (pmk_err2k (sw := sw) T hr hg hkw hall hks hdb hpl)) fun D₀ σ H ⟨pn, G, n, δ, k, R, hf, s⟩ => by
    refine ⟨pn, G, n, δ, _, k.ex, R, hf, fun G1 vs ds n1 H1 A1 R1 i1 h1 => ?_, s.xe⟩
    obtain ⟨d1, d2, rfl, h1⟩ := h1
    cases sw with
    | true =>
      obtain ⟨u, v, rfl, iu, iv⟩ := i1.two
      refine ⟨v, u, rfl, fun d hd => ?_⟩
      obtain ⟨R2, A2⟩ := R1.lay (o := .xd [(f, v), (g, u)]) hd notTbl_xd
      exact s.ex _ σ δ C (some d) [f, g] [d1, d2] n1 _ (R.tr A1 A2) R2 ⟨[(f, v), (g, u)], upd_same, rfl, by simp only [List.map, IsL]; exact ⟨Is.up A2.ge d1 v iv, Is.up A2.ge d2 u iu, trivial⟩⟩ h1
    | false =>
      obtain ⟨v, u, rfl, iv, iu⟩ := i1.two
      refine ⟨v, u, rfl, fun d hd => ?_⟩
      obtain ⟨R2, A2⟩ := R1.lay (o := .xd [(f, v), (g, u)]) hd notTbl_xd
      exact s.ex _ σ δ C (some d) [f, g] [d1, d2] n1 _ (R.tr A1 A2) R2 ⟨[(f, v), (g, u)], upd_same, rfl, by simp only [List.map, IsL]; exact ⟨Is.up A2.ge d1 v iv, Is.up A2.ge d2 u iu, trivial⟩⟩ h1
/-- e.f, e an error -/
def dErrF (f : Str) (fe : DTE) (ok : Addr → Prop) : DTE := fun δ n q e => fe δ n (fun x n1 => match x with
  | .err C ns xs => ok C ∧ ∃ d, (ns.zip xs).lookup f = some d ∧ q d n1
  | _ => False) e
def ErrFOk (K : PySem.W.Frag) (f : Str) (C : Addr) : Prop := XfC K C ∧ PySem.W.findIn K (.ref C) f = some none
theorem dp_errF {fe : DTE} {ok : Addr → Prop} (hok : ∀ C, ok C → ErrFOk X.K f C) (he : PE X e (liftE M W fe)) (hb : attributeBase e f X.env (eval e X.env) = eval e X.env := by rfl) : PE X (.Attribute e f pos) (liftE M W (dErrF f fe ok)) :=
  PEw (pe_errF he hb) fun σ H Q ⟨pn, G, n, δ, q, e, R, hf, hQ, hX⟩ => by
    refine ⟨pn, G, n, δ, _, e, R, hf, fun G1 v x n1 H1 A1 R1 i1 h1 => ?_, hX⟩
    cases x with
    | err C ns xs =>
      obtain ⟨hC, d, hd, h1⟩ := h1
      simp only [Is] at i1
      obtain ⟨a, dd, fs, rfl, g1, g2, rfl, g3⟩ := i1
      obtain ⟨u, hu, iu⟩ := xd_look g3 hd
      cases dd with
      | none =>
        cases (show fs = [] from g2)
        cases hu
      | some b => exact ⟨a, C, b, fs, u, rfl, R1.ex _ _ g1, R1.ex _ _ g2, hu, (hok C hC).1, (hok C hC).2, hQ G1 u d n1 H1 A1 R1 iu h1⟩
    | _ => exact h1.elim
/-- isinstance(x, c), x perhaps an error -/
def gIsX (K : PySem.W.Frag) : GC := fun xs n q => match xs with
  | [.err C ns ys, c] => ExcC K C ∧ ∃ u b, clsD c = some u ∧ PySem.W.kitOne K (.ref C) u = some b ∧ q (.bl b) n
  | xs => gIsi K xs n q
theorem drc_isX (hK : X.K = M.L.K) : DRC M (fun xs H Q => rIsi X.K xs H Q ∨ rIsErr X.K xs H Q) (gIsX M.L.K) := by
  intro pn G n σ δ H vs xs q Q R iv h k
  unfold gIsX at h
  split at h
  · rename_i C ns ys c
    obtain ⟨v, v', rfl, iw, iw'⟩ := iv.two
    obtain ⟨hC, u, b, hc, hb, h⟩ := h
    simp only [Is] at iw
    obtain ⟨a, dd, fs, rfl, g1, g2, _⟩ := iw
    have hx : dd = none ∨ ∃ d fs, dd = some d ∧ H d = some (.xd fs) := by
      cases dd with
      | none => exact .inl rfl
      | some d => exact .inr ⟨d, fs, rfl, R.ex _ _ g2⟩
    exact .inr ⟨a, C, dd, v', u, b, rfl, R.ex _ _ g1, hx, by rw [hK]; exact hC, fun w rw => (clsD_ok hc iw').eq rw, by rw [hK]; exact hb, k G _ _ n H Adv.refl R (by simp only [Is]) h⟩
  · exact .inl (drc_isi hK pn G n σ δ H vs xs q Q R iv h k)
theorem call_isX : CallR X (.builtin "isinstance") (fun xs H Q => rIsi X.K xs H Q ∨ rIsErr X.K xs H Q) := by
  intro pins s σ H xs us Q I r h
  rcases h with h | h
  · exact call_isi pins s σ H xs us Q I r h
  · exact call_isErr pins s σ H xs us Q I r h
/-- {} -/
def dDct : DTE := fun δ n q e => q .dct n
theorem dp_dct : PE X (.Dict [] [] pos) (liftE M W dDct) :=
  PEw pe_dnewK fun σ H Q ⟨pn, G, n, δ, q, e, R, hf, hQ, hX⟩ => fun p hp => by
    obtain ⟨R2, A2⟩ := R.lay (o := .dK []) hp notTbl_dK
    exact hQ _ (.ref p) .dct n _ A2 R2 (by simp only [Is]; exact ⟨p, rfl, upd_same⟩) hf
/-- !=, perhaps of two empty dicts -/
def gNeX : GR2 := fun x y n q => match x, y with
  | .dct, .dct => q (.bl false) n
  | x, y => gNe x y n q
theorem dr_neX : DR2 M (fun x y H Q => (rNe x y H Q ∨ rNeD M.L.K x y H Q) ∨ rNeDA x y H Q) gNeX := by
  intro pn G n σ δ H v u x y q Q R ix iy h k
  unfold gNeX at h
  split at h
  · simp only [Is] at ix iy
    obtain ⟨p1, rfl, g1⟩ := ix
    obtain ⟨p2, rfl, g2⟩ := iy
    exact .inr ⟨p1, p2, [], [], rfl, rfl, R.ex _ _ g1, R.ex _ _ g2, rfl, fun p hp => (List.not_mem_nil hp).elim, k G (.bl false) (.bl false) n H Adv.refl R (by simp only [Is]) h⟩
  · exact .inl (dr_ne pn G n σ δ H v u x y q Q R ix iy h k)
theorem op_neDX (hK : X.K = M.L.K) (hr : Room k X.A) : OpR X (compareOp .NotEq) (fun x y H Q => (rNe x y H Q ∨ rNeD M.L.K x y H Q) ∨ rNeDA x y H Q) := OpR.or (op_neX hK (by have := hr.un; omega)) (op_ne_dictA (by have := hr.un; omega))
/-- xs * k -/
def gMulL : GR2 := fun x y n q => match x, y with
  | .lst xs, .int k => 0 ≤ k ∧ k ≤ 100000 ∧ xs.length * k.toNat ≤ 100000 ∧ q (.lst (List.replicate k.toNat xs).flatten) n
  | x, y => gMul x y n q
theorem IsL.rep {vs : List V} {ds : List D} (h : IsL M G vs ds) : ∀ k, IsL M G (List.replicate k vs).flatten (List.replicate k ds).flatten
  | 0 => by simp only [List.replicate, List.flatten_nil, IsL]
  | k + 1 => by
    simp only [List.replicate_succ, List.flatten_cons]
    exact IsL.append h (IsL.rep h k)
theorem dr_mulL : DR2 M (fun x y H Q => rI MulOk (fun i j => .int (i * j)) x y H Q ∨ rRep x y H Q) gMulL := by
  intro pn G n σ δ H v u x y q Q R ix iy h kk
  unfold gMulL at h
  split at h
  · rename_i xs k
    obtain ⟨h1, h2, h3, h⟩ := h
    simp only [Is] at ix iy
    obtain ⟨p, vs, rfl, g1, g2⟩ := ix
    subst iy
    refine .inr ⟨p, k, vs, rfl, rfl, R.ex _ _ g1, by omega, by omega, by rw [g2.length]; exact le_line h3, fun l hl => ?_⟩
    obtain ⟨R2, A2⟩ := R.lay (o := .lst (List.replicate k.toNat vs).flatten) hl notTbl_lst
    exact kk _ _ _ n _ A2 R2 (by simp only [Is]; exact ⟨l, _, rfl, upd_same, IsL.up A2.ge _ _ (IsL.rep g2 _)⟩) h
  · exact .inl (dr_I (fun _ _ h => h) (fun _ _ _ => by simp only [Is]) pn G n σ δ H v u x y q Q R ix iy h kk)
theorem dp_mulL {a b : Expr} {pos : Pos} {fa fb : DTE} (ha : PE X a (liftE M W fa)) (hb : PE X b (liftE M W fb)) : PE X (.BinOp a .Mult b pos) (liftE M W (dOp gMulL fa fb)) := dp_op (OpR.or op_mulX op_rep) dr_mulL ha hb
/-- len, perhaps of the script -/
def gLenS (cs : List Int) : GC := fun xs n q => match xs with
  | [.scr] => q (.int (cs.length : Nat)) n
  | xs => gLen xs n q
theorem drc_lenS (hK : X.K = M.L.K) : DRC M (fun xs H Q => ∃ x n, xs = [x] ∧ LenV X.K x H n ∧ Q (.int (n : Nat)) H) (gLenS M.cs) := by
  intro pn G n σ δ H vs xs q Q R iv h k
  unfold gLenS at h
  split at h
  · obtain ⟨v, rfl, iw⟩ := iv.one
    simp only [Is] at iw
    obtain ⟨p, rfl, h1⟩ := iw
    exact ⟨_, M.cs.length, rfl, .inl ⟨_, by rw [hK]; exact R.ex.seqL h1, by rw [List.length_map]⟩, k G _ _ n H Adv.refl R (by simp only [Is]) h⟩
  · exact drc_len hK pn G n σ δ H vs xs q Q R iv h k
end
end DL

set_option Elab.async false
set_option linter.all false
set_option maxRecDepth 100000
set_option maxHeartbeats 8000000
set_option autoImplicit false
/-! k00: what the defs promise. -/
namespace DL
open PySem PySem.Spec PyProof.Rows L2
theorem boot_all : bootBuiltins "all" = some (.builtin "all") := by decide +kernel
theorem boot_ValueError : bootBuiltins "ValueError" = some (.type "ValueError") := by decide +kernel
theorem kit_dct_bool : kitB "dict" "bool" = some false := by decide +kernel
end DL
namespace K00
open PySem PySem.Spec PyProof.Rows L2 DL
/-- where things stand -/
structure Ad where
  SheetError : Addr
  BadValue : Addr
  i_BadValue : Addr
  NoDivisor : Addr
  NotTold : Addr
  TooHigh : Addr
  i_TooHigh : Addr
  TooMany : Addr
  i_TooMany : Addr
  NotAFormula : Addr
  i_NotAFormula : Addr
  NotANumber : Addr
  i_NotANumber : Addr
  NotAFormat : Addr
  i_NotAFormat : Addr
  NotAName : Addr
  i_NotAName : Addr
  OffGrid : Addr
  i_OffGrid : Addr
  Unknown : Addr
  i_Unknown : Addr
  Taken : Addr
  i_Taken : Addr
  BadFile : Addr
  i_BadFile : Addr
  BadPromise : Addr
  i_BadPromise : Addr
  Broken : Addr
  i_Broken : Addr
  NotMade : Addr
  i_NotMade : Addr
  NothingToUndo : Addr
  NothingToRedo : Addr
  Turns : Addr
  i_Turns : Addr
def errs (A : Ad) : List Addr := [A.BadValue, A.NoDivisor, A.NotTold, A.TooHigh, A.TooMany, A.NotAFormula, A.NotANumber, A.NotAFormat, A.NotAName, A.OffGrid, A.Unknown, A.Taken, A.BadFile, A.BadPromise, A.Broken, A.NotMade, A.NothingToUndo, A.NothingToRedo, A.Turns]
/-- the errors that are made of x and y -/
def errD (A : Ad) (x y : D) : List D := [.err A.BadValue ["value"] [x], .err A.NoDivisor [] [], .err A.NotTold [] [], .err A.TooHigh ["most"] [x], .err A.TooMany ["most"] [x], .err A.NotAFormula ["at"] [x], .err A.NotANumber ["at"] [x], .err A.NotAFormat ["at"] [x],
  .err A.NotAName ["name"] [x], .err A.OffGrid ["row", "column"] [x, y], .err A.Unknown ["name"] [x], .err A.Taken ["name"] [x], .err A.BadFile ["line", "at"] [x, y], .err A.BadPromise ["promise"] [x], .err A.Broken ["promise", "where"] [x, y], .err A.NotMade ["promise"] [x], .err A.NothingToUndo [] [], .err A.NothingToRedo [] [], .err A.Turns ["poly"] [x]]
def VALS : List D := [.non, .bl true, .int 0, .int (-3), .str [], .str [120, 32, 121], .tup [.int 1, .int 2], .lst [.str [120]], .dct, .int 1000000000, .str [97], .tup [.tup [.int 0, .int 1], .int 2]]
/-! ### promises -/
def lim (n : NS) (k : Nat) : Prop := n.at_ + k < 1000000
def s__law_draw (A : Ad) : DSp := fun ds n q _ => ∃ m : Int, ds = [.pen, .int m] ∧ 0 < m ∧ m < 1073741824 ∧ lim n 1 ∧ ∀ k t, 0 ≤ k → k < m → n.at_ ≤ t → t ≤ n.at_ + 1 → q (.int k) ⟨t, n.mu⟩
def s__law_pick (A : Ad) : DSp := fun ds n q _ => ∃ xs : List D, ds = [.pen, .lst xs] ∧ 0 < xs.length ∧ xs.length ≤ 1000 ∧ lim n 1 ∧ ∀ x t, x ∈ xs → n.at_ ≤ t → t ≤ n.at_ + 1 → q x ⟨t, n.mu⟩
def s__law_alone (A : Ad) : DSp := fun ds n q _ => ∃ x, ds = [x] ∧ q (.lst (List.replicate 12 (.tup [x, x]))) n
def s__law_more (A : Ad) : DSp := fun ds n q _ => ∃ x y, ds = [x, y] ∧ q (.lst ([x, y, x, y, x, y, x, y, x, y, x, y].map fun z => .tup [z, z])) n
def s__law_kinds (A : Ad) : DSp := fun ds n q _ => ∃ C ns xs, ds = [.err C ns xs] ∧ C ∈ errs A ∧ q (.lst ((errs A).map fun b => .int (if C = b then 1 else 0))) n
def s__law_apart (A : Ad) : DSp := fun ds n q _ => ∃ x y, ds = [x, y] ∧ q (.bl true) n
def s__law_raise (A : Ad) : DSp := fun ds n q e => ∃ (i : Int) (x : D), ds = [.int i, x] ∧ (i = 0 → e A.NotTold [] [] n) ∧ (i = 1 → e A.TooMany ["most"] [.int 3] n) ∧ (i = 2 → e A.OffGrid ["row", "column"] [.int 0, x] n) ∧ (i = 3 → e A.Unknown ["name"] [x] n) ∧ (i ≠ 0 → i ≠ 1 → i ≠ 2 → i ≠ 3 → e A.NothingToUndo [] [] n)
def s__law_caught (A : Ad) : DSp := fun ds n q _ => ∃ (i : Int) (x : D), ds = [.int i, x] ∧ q (.bl true) n
end K00

set_option Elab.async false
set_option linter.all false
set_option maxRecDepth 100000
set_option maxHeartbeats 8000000
set_option autoImplicit false
namespace K00
open PySem PySem.Spec PyProof.Rows L2 DL
def top (i : Nat) : Stmt := PySem.Challenge.pw_allinputs_k00_errors_made_by_hand.main.body.getD i (.Pass ⟨0, 0, 0, 0⟩)
theorem hu64 {k : Nat} {A : Around} (hr : Room k A) : A.units + 64 < cLine := by
  have := hr.un
  omega
theorem hu65 {k : Nat} {A : Around} (hr : Room k A) : A.units + 65 < cLine := by
  have := hr.un
  omega
/-- what the text says of the module -/
structure Txt (P : Program) (K : PySem.W.Frag) (mg : Str → Option Value) (A : Ad) : Prop where
  n_ValueError : mg "ValueError" = none
  n_all : mg "all" = none
  n_bool : mg "bool" = none
  n_int : mg "int" = none
  n_isinstance : mg "isinstance" = none
  n_len : mg "len" = none
  n_min : mg "min" = none
  n_range : mg "range" = none
  c_BadFile : mg "BadFile" = some (.ref A.BadFile)
  c_BadPromise : mg "BadPromise" = some (.ref A.BadPromise)
  c_BadValue : mg "BadValue" = some (.ref A.BadValue)
  c_Broken : mg "Broken" = some (.ref A.Broken)
  c_NoDivisor : mg "NoDivisor" = some (.ref A.NoDivisor)
  c_NotAFormat : mg "NotAFormat" = some (.ref A.NotAFormat)
  c_NotAFormula : mg "NotAFormula" = some (.ref A.NotAFormula)
  c_NotAName : mg "NotAName" = some (.ref A.NotAName)
  c_NotANumber : mg "NotANumber" = some (.ref A.NotANumber)
  c_NotMade : mg "NotMade" = some (.ref A.NotMade)
  c_NotTold : mg "NotTold" = some (.ref A.NotTold)
  c_NothingToRedo : mg "NothingToRedo" = some (.ref A.NothingToRedo)
  c_NothingToUndo : mg "NothingToUndo" = some (.ref A.NothingToUndo)
  c_OffGrid : mg "OffGrid" = some (.ref A.OffGrid)
  c_SheetError : mg "SheetError" = some (.ref A.SheetError)
  c_Taken : mg "Taken" = some (.ref A.Taken)
  c_TooHigh : mg "TooHigh" = some (.ref A.TooHigh)
  c_TooMany : mg "TooMany" = some (.ref A.TooMany)
  c_Turns : mg "Turns" = some (.ref A.Turns)
  c_Unknown : mg "Unknown" = some (.ref A.Unknown)
  e_BadFile : PySem.EY.ErrTxt P K mg "BadFile" "line" "at" A.BadFile A.i_BadFile
  e_BadPromise : PySem.EX.ErrTxt P K mg "BadPromise" "promise" A.BadPromise A.i_BadPromise
  e_BadValue : PySem.EX.ErrTxt P K mg "BadValue" "value" A.BadValue A.i_BadValue
  e_Broken : PySem.EY.ErrTxt P K mg "Broken" "promise" "where" A.Broken A.i_Broken
  e_NotAFormat : PySem.EX.ErrTxt P K mg "NotAFormat" "at" A.NotAFormat A.i_NotAFormat
  e_NotAFormula : PySem.EX.ErrTxt P K mg "NotAFormula" "at" A.NotAFormula A.i_NotAFormula
  e_NotAName : PySem.EX.ErrTxt P K mg "NotAName" "name" A.NotAName A.i_NotAName
  e_NotANumber : PySem.EX.ErrTxt P K mg "NotANumber" "at" A.NotANumber A.i_NotANumber
  e_NotMade : PySem.EX.ErrTxt P K mg "NotMade" "promise" A.NotMade A.i_NotMade
  e_OffGrid : PySem.EY.ErrTxt P K mg "OffGrid" "row" "column" A.OffGrid A.i_OffGrid
  e_Taken : PySem.EX.ErrTxt P K mg "Taken" "name" A.Taken A.i_Taken
  e_TooHigh : PySem.EX.ErrTxt P K mg "TooHigh" "most" A.TooHigh A.i_TooHigh
  e_TooMany : PySem.EX.ErrTxt P K mg "TooMany" "most" A.TooMany A.i_TooMany
  e_Turns : PySem.EX.ErrTxt P K mg "Turns" "poly" A.Turns A.i_Turns
  e_Unknown : PySem.EX.ErrTxt P K mg "Unknown" "name" A.Unknown A.i_Unknown
  z_NoDivisor : PySem.EK.Err0 P K mg "NoDivisor" A.NoDivisor
  z_NotTold : PySem.EK.Err0 P K mg "NotTold" A.NotTold
  z_NothingToRedo : PySem.EK.Err0 P K mg "NothingToRedo" A.NothingToRedo
  z_NothingToUndo : PySem.EK.Err0 P K mg "NothingToUndo" A.NothingToUndo
  ef_at : ∀ C, C ∈ [A.NotAFormula, A.NotANumber, A.NotAFormat, A.BadFile] → ErrFOk K "at" C
  ef_column : ∀ C, C ∈ [A.OffGrid] → ErrFOk K "column" C
  ef_line : ∀ C, C ∈ [A.BadFile] → ErrFOk K "line" C
  ef_most : ∀ C, C ∈ [A.TooHigh, A.TooMany] → ErrFOk K "most" C
  ef_name : ∀ C, C ∈ [A.NotAName, A.Unknown, A.Taken] → ErrFOk K "name" C
  ef_poly : ∀ C, C ∈ [A.Turns] → ErrFOk K "poly" C
  ef_promise : ∀ C, C ∈ [A.BadPromise, A.Broken, A.NotMade] → ErrFOk K "promise" C
  ef_row : ∀ C, C ∈ [A.OffGrid] → ErrFOk K "row" C
  ef_value : ∀ C, C ∈ [A.BadValue] → ErrFOk K "value" C
  ef_where : ∀ C, C ∈ [A.Broken] → ErrFOk K "where" C
  kk : ∀ a ∈ errs A, ∀ b ∈ errs A, PySem.W.kitOne K (.ref a) (.ref b) = some (decide (a = b))
  kS : ∀ a ∈ errs A, PySem.W.kitOne K (.ref a) (.ref A.SheetError) = some true
  kV : ∀ a ∈ errs A, PySem.W.kitOne K (.ref a) (.type "ValueError") = some true
  xc : ∀ a ∈ errs A, ExcC K a
  nd : (errs A).Nodup
  m_NotTold : PySem.W.exmOne K (.ref A.NotTold) (.ref A.SheetError) = some true
  m_TooMany : PySem.W.exmOne K (.ref A.TooMany) (.ref A.SheetError) = some true
  m_OffGrid : PySem.W.exmOne K (.ref A.OffGrid) (.ref A.SheetError) = some true
  m_Unknown : PySem.W.exmOne K (.ref A.Unknown) (.ref A.SheetError) = some true
  m_NothingToUndo : PySem.W.exmOne K (.ref A.NothingToUndo) (.ref A.SheetError) = some true
abbrev XC (P : Program) (w : World) (K : PySem.W.Frag) (mg : Str → Option Value) (base : Heap) (N : List Str) (x : Str) (st : Stmt) (f : Addr) (cdv : Value) (A : Around) (outer : List Env) (s : Shared) (H : Hp) (E : XK) : Cx := cxOf (L2.CX P w) P w K mg base N x (defScope st) f cdv A outer s H E
abbrev MM (K : PySem.W.Frag) (Tb : List (Addr × Str)) (pn : Addr) (cs : List Int) : LK := MK K Tb "stop" "rest" pn cs
theorem KO {K : PySem.W.Frag} {Tb : List (Addr × Str)} {pn : Addr} {cs : List Int} : KeysOk (MM K Tb pn cs) := ⟨(by decide : ("stop" : Str) ≠ "cells"), (by decide : ("rest" : Str) ≠ "cells"), (by decide : ("rest" : Str) ≠ "stop")⟩
abbrev N__law_alone : List Str := ["_law_mine"]
theorem sc__law_alone : FnScope N__law_alone ["_law_mine"] (defScope (top 25)) := ⟨rfl, rfl, rfl, by decide +kernel, rfl, by decide +kernel, by decide +kernel⟩
def t__law_alone (K : PySem.W.Frag) (A : Ad) (cs : List Int) : DTS :=
  (dRet (dLst (dCons (dTup (dCons (dErrF "value" (dErr1 A.BadValue "value" (dCons (dVar 0) dNil)) (fun C => C ∈ [A.BadValue])) (dCons (dErrF "value" (dErr1 A.BadValue "value" (dCons (dVar 0) dNil)) (fun C => C ∈ [A.BadValue])) dNil))) (dCons (dTup (dCons (dErrF "most" (dErr1 A.TooHigh "most" (dCons (dVar 0) dNil)) (fun C => C ∈ [A.TooHigh, A.TooMany])) (dCons (dErrF "most" (dErr1 A.TooHigh "most" (dCons (dVar 0) dNil)) (fun C => C ∈ [A.TooHigh, A.TooMany])) dNil))) (dCons (dTup (dCons (dErrF "most" (dErr1 A.TooMany "most" (dCons (dVar 0) dNil)) (fun C => C ∈ [A.TooHigh, A.TooMany])) (dCons (dErrF "most" (dErr1 A.TooMany "most" (dCons (dVar 0) dNil)) (fun C => C ∈ [A.TooHigh, A.TooMany])) dNil))) (dCons (dTup (dCons (dErrF "at" (dErr1 A.NotAFormula "at" (dCons (dVar 0) dNil)) (fun C => C ∈ [A.NotAFormula, A.NotANumber, A.NotAFormat, A.BadFile])) (dCons (dErrF "at" (dErr1 A.NotAFormula "at" (dCons (dVar 0) dNil)) (fun C => C ∈ [A.NotAFormula, A.NotANumber, A.NotAFormat, A.BadFile])) dNil))) (dCons (dTup (dCons (dErrF "at" (dErr1 A.NotANumber "at" (dCons (dVar 0) dNil)) (fun C => C ∈ [A.NotAFormula, A.NotANumber, A.NotAFormat, A.BadFile])) (dCons (dErrF "at" (dErr1 A.NotANumber "at" (dCons (dVar 0) dNil)) (fun C => C ∈ [A.NotAFormula, A.NotANumber, A.NotAFormat, A.BadFile])) dNil))) (dCons (dTup (dCons (dErrF "at" (dErr1 A.NotAFormat "at" (dCons (dVar 0) dNil)) (fun C => C ∈ [A.NotAFormula, A.NotANumber, A.NotAFormat, A.BadFile])) (dCons (dErrF "at" (dErr1 A.NotAFormat "at" (dCons (dVar 0) dNil)) (fun C => C ∈ [A.NotAFormula, A.NotANumber, A.NotAFormat, A.BadFile])) dNil))) (dCons (dTup (dCons (dErrF "name" (dErr1 A.NotAName "name" (dCons (dVar 0) dNil)) (fun C => C ∈ [A.NotAName, A.Unknown, A.Taken])) (dCons (dErrF "name" (dErr1 A.NotAName "name" (dCons (dVar 0) dNil)) (fun C => C ∈ [A.NotAName, A.Unknown, A.Taken])) dNil))) (dCons (dTup (dCons (dErrF "name" (dErr1 A.Unknown "name" (dCons (dVar 0) dNil)) (fun C => C ∈ [A.NotAName, A.Unknown, A.Taken])) (dCons (dErrF "name" (dErr1 A.Unknown "name" (dCons (dVar 0) dNil)) (fun C => C ∈ [A.NotAName, A.Unknown, A.Taken])) dNil))) (dCons (dTup (dCons (dErrF "name" (dErr1 A.Taken "name" (dCons (dVar 0) dNil)) (fun C => C ∈ [A.NotAName, A.Unknown, A.Taken])) (dCons (dErrF "name" (dErr1 A.Taken "name" (dCons (dVar 0) dNil)) (fun C => C ∈ [A.NotAName, A.Unknown, A.Taken])) dNil))) (dCons (dTup (dCons (dErrF "promise" (dErr1 A.BadPromise "promise" (dCons (dVar 0) dNil)) (fun C => C ∈ [A.BadPromise, A.Broken, A.NotMade])) (dCons (dErrF "promise" (dErr1 A.BadPromise "promise" (dCons (dVar 0) dNil)) (fun C => C ∈ [A.BadPromise, A.Broken, A.NotMade])) dNil))) (dCons (dTup (dCons (dErrF "promise" (dErr1 A.NotMade "promise" (dCons (dVar 0) dNil)) (fun C => C ∈ [A.BadPromise, A.Broken, A.NotMade])) (dCons (dErrF "promise" (dErr1 A.NotMade "promise" (dCons (dVar 0) dNil)) (fun C => C ∈ [A.BadPromise, A.Broken, A.NotMade])) dNil))) (dCons (dTup (dCons (dErrF "poly" (dErr1 A.Turns "poly" (dCons (dVar 0) dNil)) (fun C => C ∈ [A.Turns])) (dCons (dErrF "poly" (dErr1 A.Turns "poly" (dCons (dVar 0) dNil)) (fun C => C ∈ [A.Turns])) dNil))) dNil))))))))))))))
abbrev N__law_more : List Str := ["_law_mine", "_law_yours", "_law_pairs"]
theorem sc__law_more : FnScope N__law_more ["_law_mine", "_law_yours"] (defScope (top 26)) := ⟨rfl, rfl, rfl, by decide +kernel, rfl, by decide +kernel, by decide +kernel⟩
def t__law_more (K : PySem.W.Frag) (A : Ad) (cs : List Int) : DTS :=
  (dForg (dSeq (dAsg (dLstM dNil) (dgName 2))
    (dSeq (dDrop (dApp (dVar 2) (dTup (dCons (dErrF "row" (dErr2 A.OffGrid "row" "column" false (dCons (dVar 0) (dCons (dVar 1) dNil)) dNil) (fun C => C ∈ [A.OffGrid])) (dCons (dVar 0) dNil)))))
    (dSeq (dDrop (dApp (dVar 2) (dTup (dCons (dErrF "column" (dErr2m A.OffGrid "row" "column" (dCons (dVar 0) dNil) (dCons (dVar 1) dNil)) (fun C => C ∈ [A.OffGrid])) (dCons (dVar 1) dNil)))))
    (dSeq (dDrop (dApp (dVar 2) (dTup (dCons (dErrF "column" (dErr2 A.OffGrid "row" "column" true dNil (dCons (dVar 0) (dCons (dVar 1) dNil))) (fun C => C ∈ [A.OffGrid])) (dCons (dVar 0) dNil)))))
    (dSeq (dDrop (dApp (dVar 2) (dTup (dCons (dErrF "row" (dErr2 A.OffGrid "row" "column" true dNil (dCons (dVar 0) (dCons (dVar 1) dNil))) (fun C => C ∈ [A.OffGrid])) (dCons (dVar 1) dNil)))))
    (dSeq (dDrop (dApp (dVar 2) (dTup (dCons (dErrF "line" (dErr2 A.BadFile "line" "at" false (dCons (dVar 0) (dCons (dVar 1) dNil)) dNil) (fun C => C ∈ [A.BadFile])) (dCons (dVar 0) dNil)))))
    (dSeq (dDrop (dApp (dVar 2) (dTup (dCons (dErrF "at" (dErr2m A.BadFile "line" "at" (dCons (dVar 0) dNil) (dCons (dVar 1) dNil)) (fun C => C ∈ [A.NotAFormula, A.NotANumber, A.NotAFormat, A.BadFile])) (dCons (dVar 1) dNil)))))
    (dSeq (dDrop (dApp (dVar 2) (dTup (dCons (dErrF "at" (dErr2 A.BadFile "line" "at" true dNil (dCons (dVar 0) (dCons (dVar 1) dNil))) (fun C => C ∈ [A.NotAFormula, A.NotANumber, A.NotAFormat, A.BadFile])) (dCons (dVar 0) dNil)))))
    (dSeq (dDrop (dApp (dVar 2) (dTup (dCons (dErrF "line" (dErr2 A.BadFile "line" "at" true dNil (dCons (dVar 0) (dCons (dVar 1) dNil))) (fun C => C ∈ [A.BadFile])) (dCons (dVar 1) dNil)))))
    (dSeq (dDrop (dApp (dVar 2) (dTup (dCons (dErrF "promise" (dErr2 A.Broken "promise" "where" false (dCons (dVar 0) (dCons (dVar 1) dNil)) dNil) (fun C => C ∈ [A.BadPromise, A.Broken, A.NotMade])) (dCons (dVar 0) dNil)))))
    (dSeq (dDrop (dApp (dVar 2) (dTup (dCons (dErrF "where" (dErr2m A.Broken "promise" "where" (dCons (dVar 0) dNil) (dCons (dVar 1) dNil)) (fun C => C ∈ [A.Broken])) (dCons (dVar 1) dNil)))))
    (dSeq (dDrop (dApp (dVar 2) (dTup (dCons (dErrF "where" (dErr2 A.Broken "promise" "where" true dNil (dCons (dVar 0) (dCons (dVar 1) dNil))) (fun C => C ∈ [A.Broken])) (dCons (dVar 0) dNil)))))
    (dSeq (dDrop (dApp (dVar 2) (dTup (dCons (dErrF "promise" (dErr2 A.Broken "promise" "where" true dNil (dCons (dVar 0) (dCons (dVar 1) dNil))) (fun C => C ∈ [A.BadPromise, A.Broken, A.NotMade])) (dCons (dVar 1) dNil)))))
    (dRet (dFrz (dVar 2)))))))))))))))))
abbrev N__law_draw : List Str := ["_law_pen_here", "_law_many", "_law_digit", "_law_stop", "_law_cell", "_law_blend"]
theorem sc__law_draw : FnScope N__law_draw ["_law_pen_here", "_law_many"] (defScope (top 23)) := ⟨rfl, rfl, rfl, by decide +kernel, rfl, by decide +kernel, by decide +kernel⟩
def u__law_draw_10 (K : PySem.W.Frag) (A : Ad) (cs : List Int) : DTS :=
  (dRet (dOp gMod (dCB gInt (dCons (dOp gDiv (dOp gMod (dCB gInt (dCons (dOp gAdd (dOp gMul (dVar 5) (dVar 5)) (dOp gMul (dC (.int 19)) (dVar 5))) dNil)) (dC (.int 2147483399))) (dC (.int 16))) dNil)) (dVar 1)))
def u__law_draw_9 (K : PySem.W.Frag) (A : Ad) (cs : List Int) : DTS :=
  (dSeq (dAsg (dOp gMod (dCB gInt (dCons (dOp gMul (dVar 5) (dOp gAdd (dVar 5) (dC (.int 70019)))) dNil)) (dC (.int 2147483353))) (dgName 5)) (u__law_draw_10 K A cs))
def u__law_draw_8 (K : PySem.W.Frag) (A : Ad) (cs : List Int) : DTS :=
  (dSeq (dAsg (dOp gMod (dCB gInt (dCons (dOp gAdd (dOp gAdd (dOp gAdd (dVar 5) (dOp gMul (dOp gMul (dC (.int 52489)) (dVar 3)) (dVar 3))) (dOp gMul (dC (.int 103)) (dVar 3))) (dC (.int 37))) dNil)) (dC (.int 2147483323))) (dgName 5)) (u__law_draw_9 K A cs))
def u__law_draw_7 (K : PySem.W.Frag) (A : Ad) (cs : List Int) : DTS :=
  (dSeq (dAsg (dOp gMul (dOp gMod (dCB gInt (dCons (dVar 4) dNil)) (dC (.int 2147483269))) (dC (.int 40177))) (dgName 5)) (u__law_draw_8 K A cs))
def u__law_draw_6 (K : PySem.W.Frag) (A : Ad) (cs : List Int) : DTS :=
  (dSeq (dIfS (dAnd (dTest (dOp gLt (dVar 3) (dCB gLen (dCons (dPenC cs (dVar 0)) dNil)))) (dTest (dOp gGe (dVar 4) (dOp gPow (dC (.int 10)) (dC (.int 18)))))) (dSeq (dPutL (dOp gDiv (dOp gSub (dVar 4) (dOp gPow (dC (.int 10)) (dC (.int 18)))) (dVar 1)) (dVar 0))
    (dRet (dOp gMod (dCB gInt (dCons (dOp gSub (dVar 4) (dOp gPow (dC (.int 10)) (dC (.int 18)))) dNil)) (dVar 1)))) dNext) (u__law_draw_7 K A cs))
def u__law_draw_5 (K : PySem.W.Frag) (A : Ad) (cs : List Int) : DTS :=
  (dSeq (dIfS (dTest (dOp gNe (dPenC cs (dVar 0)) (dLst dNil))) (dAsg (dOp gIx (dPenC cs (dVar 0)) (dOp gMod (dCB gInt (dCons (dVar 3) dNil)) (dCB gLen (dCons (dPenC cs (dVar 0)) dNil)))) (dgName 4)) dNext) (u__law_draw_6 K A cs))
def u__law_draw_4 (K : PySem.W.Frag) (A : Ad) (cs : List Int) : DTS :=
  (dSeq (dAsg (dOp gAdd (dOp gMul (dC (.int 73)) (dVar 3)) (dC (.int 41))) (dgName 4)) (u__law_draw_5 K A cs))
def u__law_draw_3 (K : PySem.W.Frag) (A : Ad) (cs : List Int) : DTS :=
  (dSeq (dPutA (dOp gAdd (dVar 3) (dC (.int 1))) (dVar 0)) (u__law_draw_4 K A cs))
def u__law_draw_2 (K : PySem.W.Frag) (A : Ad) (cs : List Int) : DTS :=
  (dSeq (dAsg (dPenA (dVar 0)) (dgName 3)) (u__law_draw_3 K A cs))
def t__law_draw (K : PySem.W.Frag) (A : Ad) (cs : List Int) : DTS :=
  (dSeq (dIfS (dTest (dOp gGe (dPenL (dVar 0)) (dVar 1))) (dSeq (dAsg (dOp gMod (dCB gInt (dCons (dPenL (dVar 0)) dNil)) (dVar 1)) (dgName 2))
    (dSeq (dPutL (dOp gDiv (dPenL (dVar 0)) (dVar 1)) (dVar 0))
    (dRet (dVar 2)))) dNext) (u__law_draw_2 K A cs))
abbrev N__law_pick : List Str := ["_law_pen_here", "_law_items"]
theorem sc__law_pick : FnScope N__law_pick ["_law_pen_here", "_law_items"] (defScope (top 24)) := ⟨rfl, rfl, rfl, by decide +kernel, rfl, by decide +kernel, by decide +kernel⟩
def t__law_pick (K : PySem.W.Frag) (A : Ad) (cs : List Int) : DTS :=
  (dRet (dOp gIx (dVar 1) (dCal 2 (s__law_draw A) (dCons (dVar 0) (dCons (dCB gLen (dCons (dVar 1) dNil)) dNil)))))
abbrev N__law_kinds : List Str := ["_law_error", "_law_told", "_law_once"]
theorem sc__law_kinds : FnScope N__law_kinds ["_law_error"] (defScope (top 27)) := ⟨rfl, rfl, rfl, by decide +kernel, rfl, by decide +kernel, by decide +kernel⟩
def u__law_kinds_9 (K : PySem.W.Frag) (A : Ad) (cs : List Int) : DTS :=
  (dRet (dLc (diSeq (dVar 1)) (dgName 2) dYes (dCB gInt (dCons (dVar 2) dNil)) [2]))
def u__law_kinds_8 (K : PySem.W.Frag) (A : Ad) (cs : List Int) : DTS :=
  (dSeq (dAsg (dOp gAdd (dVar 1) (dLst (dCons (dCB (gIsX K) (dCons (dVar 0) (dCons (dC (.ref A.Turns)) dNil))) dNil))) (dgName 1)) (u__law_kinds_9 K A cs))
def u__law_kinds_7 (K : PySem.W.Frag) (A : Ad) (cs : List Int) : DTS :=
  (dSeq (dAsg (dOp gAdd (dVar 1) (dLst (dCons (dCB (gIsX K) (dCons (dVar 0) (dCons (dC (.ref A.NotMade)) dNil))) (dCons (dCB (gIsX K) (dCons (dVar 0) (dCons (dC (.ref A.NothingToUndo)) dNil))) (dCons (dCB (gIsX K) (dCons (dVar 0) (dCons (dC (.ref A.NothingToRedo)) dNil))) dNil))))) (dgName 1)) (u__law_kinds_8 K A cs))
def u__law_kinds_6 (K : PySem.W.Frag) (A : Ad) (cs : List Int) : DTS :=
  (dSeq (dAsg (dOp gAdd (dVar 1) (dLst (dCons (dCB (gIsX K) (dCons (dVar 0) (dCons (dC (.ref A.BadFile)) dNil))) (dCons (dCB (gIsX K) (dCons (dVar 0) (dCons (dC (.ref A.BadPromise)) dNil))) (dCons (dCB (gIsX K) (dCons (dVar 0) (dCons (dC (.ref A.Broken)) dNil))) dNil))))) (dgName 1)) (u__law_kinds_7 K A cs))
def u__law_kinds_5 (K : PySem.W.Frag) (A : Ad) (cs : List Int) : DTS :=
  (dSeq (dAsg (dOp gAdd (dVar 1) (dLst (dCons (dCB (gIsX K) (dCons (dVar 0) (dCons (dC (.ref A.OffGrid)) dNil))) (dCons (dCB (gIsX K) (dCons (dVar 0) (dCons (dC (.ref A.Unknown)) dNil))) (dCons (dCB (gIsX K) (dCons (dVar 0) (dCons (dC (.ref A.Taken)) dNil))) dNil))))) (dgName 1)) (u__law_kinds_6 K A cs))
def u__law_kinds_4 (K : PySem.W.Frag) (A : Ad) (cs : List Int) : DTS :=
  (dSeq (dAsg (dOp gAdd (dVar 1) (dLst (dCons (dCB (gIsX K) (dCons (dVar 0) (dCons (dC (.ref A.NotANumber)) dNil))) (dCons (dCB (gIsX K) (dCons (dVar 0) (dCons (dC (.ref A.NotAFormat)) dNil))) (dCons (dCB (gIsX K) (dCons (dVar 0) (dCons (dC (.ref A.NotAName)) dNil))) dNil))))) (dgName 1)) (u__law_kinds_5 K A cs))
def u__law_kinds_3 (K : PySem.W.Frag) (A : Ad) (cs : List Int) : DTS :=
  (dSeq (dAsg (dOp gAdd (dVar 1) (dLst (dCons (dCB (gIsX K) (dCons (dVar 0) (dCons (dC (.ref A.TooHigh)) dNil))) (dCons (dCB (gIsX K) (dCons (dVar 0) (dCons (dC (.ref A.TooMany)) dNil))) (dCons (dCB (gIsX K) (dCons (dVar 0) (dCons (dC (.ref A.NotAFormula)) dNil))) dNil))))) (dgName 1)) (u__law_kinds_4 K A cs))
def u__law_kinds_2 (K : PySem.W.Frag) (A : Ad) (cs : List Int) : DTS :=
  (dSeq (dAsg (dOp gAdd (dVar 1) (dLst (dCons (dCB (gIsX K) (dCons (dVar 0) (dCons (dC (.ref A.BadValue)) dNil))) (dCons (dCB (gIsX K) (dCons (dVar 0) (dCons (dC (.ref A.NoDivisor)) dNil))) (dCons (dCB (gIsX K) (dCons (dVar 0) (dCons (dC (.ref A.NotTold)) dNil))) dNil))))) (dgName 1)) (u__law_kinds_3 K A cs))
def t__law_kinds (K : PySem.W.Frag) (A : Ad) (cs : List Int) : DTS :=
  (dSeq (dAsg (dLst dNil) (dgName 1)) (u__law_kinds_2 K A cs))
abbrev N__law_apart : List Str := ["_law_mine", "_law_yours", "_law_made", "_law_error", "_law_last", "_law_k"]
theorem sc__law_apart : FnScope N__law_apart ["_law_mine", "_law_yours"] (defScope (top 28)) := ⟨rfl, rfl, rfl, by decide +kernel, rfl, by decide +kernel, by decide +kernel⟩
def u__law_apart_9 (K : PySem.W.Frag) (A : Ad) (cs : List Int) : DTS :=
  (dRet (dCB gAll (dCons (dLc (diRange1 (dCons (dCB gLen (dCons (dVar 2) dNil)) dNil)) (dgName 5) dYes (dOp gEq (dCal 1 (s__law_kinds A) (dCons (dOp gIx (dVar 2) (dVar 5)) dNil)) (dOp gAdd (dOp gAdd (dOp gMulL (dLst (dCons (dC (.int 0)) dNil)) (dVar 5)) (dLst (dCons (dC (.int 1)) dNil))) (dOp gMulL (dLst (dCons (dC (.int 0)) dNil)) (dOp gSub (dVar 4) (dVar 5))))) [5]) dNil)))
def u__law_apart_8 (K : PySem.W.Frag) (A : Ad) (cs : List Int) : DTS :=
  (dSeq (dAsg (dOp gSub (dCB gLen (dCons (dVar 2) dNil)) (dC (.int 1))) (dgName 4)) (u__law_apart_9 K A cs))
def u__law_apart_7 (K : PySem.W.Frag) (A : Ad) (cs : List Int) : DTS :=
  (dSeq (dIfS (dNot (dTest (dCB gAll (dCons (dLc (diSeq (dVar 2)) (dgName 3) dYes (dAndV (dCB (gIsX K) (dCons (dVar 3) (dCons (dC (.ref A.SheetError)) dNil))) (dCB (gIsX K) (dCons (dVar 3) (dCons (dC (.ty "ValueError")) dNil)))) [3]) dNil)))) (dRet (dC (.bl false))) dNext) (u__law_apart_8 K A cs))
def u__law_apart_6 (K : PySem.W.Frag) (A : Ad) (cs : List Int) : DTS :=
  (dSeq (dAsg (dOp gAdd (dVar 2) (dLst (dCons (dErr0 A.NothingToUndo) (dCons (dErr0 A.NothingToRedo) (dCons (dErr1 A.Turns "poly" (dCons (dVar 0) dNil)) dNil))))) (dgName 2)) (u__law_apart_7 K A cs))
def u__law_apart_5 (K : PySem.W.Frag) (A : Ad) (cs : List Int) : DTS :=
  (dSeq (dAsg (dOp gAdd (dVar 2) (dLst (dCons (dErr2 A.BadFile "line" "at" false (dCons (dVar 0) (dCons (dVar 1) dNil)) dNil) (dCons (dErr1 A.BadPromise "promise" (dCons (dVar 0) dNil)) (dCons (dErr2 A.Broken "promise" "where" false (dCons (dVar 0) (dCons (dVar 1) dNil)) dNil) (dCons (dErr1 A.NotMade "promise" (dCons (dVar 0) dNil)) dNil)))))) (dgName 2)) (u__law_apart_6 K A cs))
def u__law_apart_4 (K : PySem.W.Frag) (A : Ad) (cs : List Int) : DTS :=
  (dSeq (dAsg (dOp gAdd (dVar 2) (dLst (dCons (dErr1 A.NotAName "name" (dCons (dVar 0) dNil)) (dCons (dErr2 A.OffGrid "row" "column" false (dCons (dVar 0) (dCons (dVar 1) dNil)) dNil) (dCons (dErr1 A.Unknown "name" (dCons (dVar 0) dNil)) (dCons (dErr1 A.Taken "name" (dCons (dVar 0) dNil)) dNil)))))) (dgName 2)) (u__law_apart_5 K A cs))
def u__law_apart_3 (K : PySem.W.Frag) (A : Ad) (cs : List Int) : DTS :=
  (dSeq (dAsg (dOp gAdd (dVar 2) (dLst (dCons (dErr1 A.TooMany "most" (dCons (dVar 0) dNil)) (dCons (dErr1 A.NotAFormula "at" (dCons (dVar 0) dNil)) (dCons (dErr1 A.NotANumber "at" (dCons (dVar 0) dNil)) (dCons (dErr1 A.NotAFormat "at" (dCons (dVar 0) dNil)) dNil)))))) (dgName 2)) (u__law_apart_4 K A cs))
def u__law_apart_2 (K : PySem.W.Frag) (A : Ad) (cs : List Int) : DTS :=
  (dSeq (dAsg (dOp gAdd (dVar 2) (dLst (dCons (dErr1 A.BadValue "value" (dCons (dVar 0) dNil)) (dCons (dErr0 A.NoDivisor) (dCons (dErr0 A.NotTold) (dCons (dErr1 A.TooHigh "most" (dCons (dVar 0) dNil)) dNil)))))) (dgName 2)) (u__law_apart_3 K A cs))
def t__law_apart (K : PySem.W.Frag) (A : Ad) (cs : List Int) : DTS :=
  (dSeq (dAsg (dLst dNil) (dgName 2)) (u__law_apart_2 K A cs))
abbrev N__law_raise : List Str := ["_law_which", "_law_mine"]
theorem sc__law_raise : FnScope N__law_raise ["_law_which", "_law_mine"] (defScope (top 29)) := ⟨rfl, rfl, rfl, by decide +kernel, rfl, by decide +kernel, by decide +kernel⟩
def t__law_raise (K : PySem.W.Frag) (A : Ad) (cs : List Int) : DTS :=
  (dSeq (dIfS (dTest (dOp gEq (dVar 0) (dC (.int 0)))) (dRaise0 A.NotTold) dNext)
    (dSeq (dIfS (dTest (dOp gEq (dVar 0) (dC (.int 1)))) (dRaise A.TooMany "most" (dCons (dC (.int 3)) dNil)) dNext)
    (dSeq (dIfS (dTest (dOp gEq (dVar 0) (dC (.int 2)))) (dRaise2k A.OffGrid "row" "column" true (dCons (dVar 1) (dCons (dC (.int 0)) dNil))) dNext)
    (dSeq (dIfS (dTest (dOp gEq (dVar 0) (dC (.int 3)))) (dRaise A.Unknown "name" (dCons (dVar 1) dNil)) dNext)
    (dRaise0 A.NothingToUndo)))))
abbrev N__law_caught : List Str := ["_law_which", "_law_mine", "e"]
theorem sc__law_caught : FnScope N__law_caught ["_law_which", "_law_mine"] (defScope (top 30)) := ⟨rfl, rfl, rfl, by decide +kernel, rfl, by decide +kernel, by decide +kernel⟩
def t__law_caught (K : PySem.W.Frag) (A : Ad) (cs : List Int) : DTS :=
  (dSeq (dTry K (dDrop (dCal 2 (s__law_raise A) (dCons (dVar 0) (dCons (dVar 1) dNil)))) [(.ref A.SheetError, 2, fun a cls d => (dRet (dC (.bl true))))])
    (dRet (dC (.bl false))))
abbrev N_law : List Str := ["_law_script", "_law_pen_here", "_law_values", "_law_lap", "_law_mine", "_law_yours", "_law_held", "_law_twice", "_law_due", "_law_which"]
theorem sc_law : FnScope N_law ["_law_script"] (defScope (top 31)) := ⟨rfl, rfl, rfl, by decide +kernel, rfl, by decide +kernel, by decide +kernel⟩
def u_law_3 (K : PySem.W.Frag) (A : Ad) (cs : List Int) : DTS :=
  (dRet (dC (.bl true)))
def l_law_2 (K : PySem.W.Frag) (A : Ad) (cs : List Int) : DTS :=
  (dIfS (dOr (dTest (dOp gNeX (dVar 6) (dVar 8))) (dTest (dOp gNeX (dCB (gIsi K) (dCons (dVar 6) (dCons (dC (.ty "bool")) dNil))) (dCB (gIsi K) (dCons (dVar 8) (dCons (dC (.ty "bool")) dNil)))))) (dRet (dC (.bl false))) dNext)
def l_law_3 (K : PySem.W.Frag) (A : Ad) (cs : List Int) : DTS :=
  (dIfS (dOr (dTest (dOp gNeX (dVar 6) (dVar 4))) (dOr (dTest (dOp gNeX (dVar 7) (dVar 4))) (dTest (dOp gNeX (dCB (gIsi K) (dCons (dVar 6) (dCons (dC (.ty "bool")) dNil))) (dCB (gIsi K) (dCons (dVar 4) (dCons (dC (.ty "bool")) dNil))))))) (dRet (dC (.bl false))) dNext)
def l_law_4 (K : PySem.W.Frag) (A : Ad) (cs : List Int) : DTS :=
  (dSeq (dAsg (dTup (dCons (dCal 2 (s__law_pick A) (dCons (dVar 1) (dCons (dVar 2) dNil))) (dCons (dCal 2 (s__law_pick A) (dCons (dVar 1) (dCons (dVar 2) dNil))) dNil))) (dgTup 2 (dgCons (dgName 4) (dgCons (dgName 5) dgNil))))
    (dSeq (dFor (diSeq (dCal 1 (s__law_alone A) (dCons (dVar 4) dNil))) (dgTup 2 (dgCons (dgName 6) (dgCons (dgName 7) dgNil))) (l_law_3 K A cs))
    (dSeq (dFor (diSeq (dCal 2 (s__law_more A) (dCons (dVar 4) (dCons (dVar 5) dNil)))) (dgTup 2 (dgCons (dgName 6) (dgCons (dgName 8) dgNil))) (l_law_2 K A cs))
    (dIfS (dOr (dNot (dTest (dCal 2 (s__law_apart A) (dCons (dVar 4) (dCons (dVar 5) dNil))))) (dNot (dTest (dCB gAll (dCons (dLc (diRange1 (dCons (dC (.int 5)) dNil)) (dgName 9) dYes (dCal 2 (s__law_caught A) (dCons (dVar 9) (dCons (dVar 4) dNil))) [9]) dNil))))) (dRet (dC (.bl false))) dNext))))
def u_law_2 (K : PySem.W.Frag) (A : Ad) (cs : List Int) : DTS :=
  (dSeq (dFor (diRange1 (dCons (dOp gAdd (dC (.int 2)) (dCB gMin (dCons (dC (.int 3)) (dCons (dCB (gLenS cs) (dCons (dVar 0) dNil)) dNil)))) dNil)) (dgName 3) (l_law_4 K A cs)) (u_law_3 K A cs))
def t_law (K : PySem.W.Frag) (A : Ad) (cs : List Int) : DTS :=
  (dSeq (dAsg (dLst (dCons (dC .non) (dCons (dC (.bl true)) (dCons (dC (.int 0)) (dCons (dNeg (dC (.int 3))) (dCons (dC (.str [])) (dCons (dC (.str [120, 32, 121])) (dCons (dTup (dCons (dC (.int 1)) (dCons (dC (.int 2)) dNil))) (dCons (dLst (dCons (dC (.str [120])) dNil)) (dCons dDct (dCons (dOp gPow (dC (.int 10)) (dC (.int 9))) (dCons (dC (.str [97])) (dCons (dTup (dCons (dTup (dCons (dC (.int 0)) (dCons (dC (.int 1)) dNil))) (dCons (dC (.int 2)) dNil))) dNil))))))))))))) (dgName 2)) (u_law_2 K A cs))
-- end
end K00

set_option Elab.async false
set_option linter.all false
set_option maxRecDepth 100000
set_option maxHeartbeats 8000000
set_option autoImplicit false
namespace K00
open PySem PySem.Spec PyProof.Rows L2 DL
section
variable {P : Program} {K : PySem.W.Frag} {mg : Str → Option Value} {A : Ad} {cs : List Int}
theorem atI_nat {α : Type} {xs : List α} {j : Nat} (h : j < xs.length) : L2.atI xs (j : Int) = some xs[j] := by
  unfold L2.atI L2.ixN
  rw [if_pos (by omega), if_pos (by omega)]
  simp [h]
theorem py_ints : ∀ ns : List Int, pyL (ns.map D.int) = some (ns.map PyData.int)
  | [] => rfl
  | n :: ns => by
    simp only [List.map_cons, pyL, py, py_ints ns]
theorem lay_ints : ∀ ns : List Int, PyData.canLayAll0 (ns.map PyData.int) = true ∧ PyData.depthAll (ns.map PyData.int) = 0
  | [] => ⟨rfl, rfl⟩
  | n :: ns => by
    obtain ⟨h1, h2⟩ := lay_ints ns
    simp only [List.map_cons, PyData.canLayAll0, PyData.canLay0, h1, PyData.depthAll, PyData.depth, h2, Bool.and_self, Nat.max_self, and_self]
theorem shaped_int (ns : List Int) : SeqAt.shaped (.list (ns.map PyData.int)) = true := by
  obtain ⟨h1, h2⟩ := lay_ints ns
  simp only [SeqAt.shaped, PyData.canLay0, h1, PyData.depth, h2, Bool.true_and]
  rfl
theorem ne_nil (ns : List Int) (k : Bool → Prop) (h : k (decide (ns = []))) : eqD (.lst (ns.map D.int)) (.lst []) k := by
  refine ⟨.list (ns.map PyData.int), .list [], by simp only [py, py_ints, Option.map_some], rfl, shaped_int ns, shaped_int [], ?_⟩
  cases ns with
  | nil => exact h
  | cons n ns => exact h
theorem bound_mod {x m : Int} (h : 0 < m) : 0 ≤ x % m ∧ x % m < m := ⟨Int.emod_nonneg _ (by omega), Int.emod_lt_of_pos _ h⟩
theorem mul_l {i j : Int} (h : -(2 ^ 64) < i ∧ i < 2 ^ 64) : DL.MulOk i j := .inl (.inl h)
theorem mul_r {i j : Int} (h : -(2 ^ 64) < j ∧ j < 2 ^ 64) : DL.MulOk i j := .inl (.inr h)
theorem p_draw7 {m a z : Int} {n : NS} {x y : Option D} {q : D → NS → Prop} {e : DX} (hm : 0 < m) (ha : 0 ≤ a ∧ a < 1000000) (h : ∀ k : Int, 0 ≤ k → k < m → q (.int k) n) : u__law_draw_7 K A cs { nx := fun _ n' => q .non n', rt := q, ex := e } [some .pen, some (.int m), x, some (.int a), some (.int z), y] n := by
  unfold u__law_draw_7 u__law_draw_8 u__law_draw_9 u__law_draw_10
  simp only [dSeq, dNext, dIfS, dTest, dOp, dVar, dC, dRet, dRetN, dGet, dAnd, dOr, dNot, dAndV, dOrV, dNotV, dIf, dNil, dCons, dTup, dLst, dCB, dM0, dM1, dDrop, dAsg, dgName, dPar, dCal, dChain, dRaise, dRaise2, dFor, diSeq, items, diRange1, diRange2, dLc, dYes, dgTup, dgCons, dgNil, dSl, dPart, dNoPart, dNeg, dPenC, dPenA, dPenL, dPutA, dPutL, dFld, dgFld, dNew, dMet, dLstM, dFrz, dApp, dgIx, dAug, startD, List.map_cons, List.map_nil, List.length_cons, List.length_nil, List.replicate, Nat.reduceAdd, Nat.reduceSub, List.cons_append, List.nil_append, List.append_nil, List.set_cons_zero, List.set_cons_succ, List.getElem?_cons_zero, List.getElem?_cons_succ, gInt, gMod, gI, gAdd, gMul, gDiv]
  repeat' (first | exact h _ (bound_mod hm).1 (bound_mod hm).2 | exact hm | apply And.intro | decide | exact ⟨by decide, .inl (by decide)⟩ | exact mul_l (by omega) | exact mul_r (by omega) | exact mul_l (by decide) | exact .inl (by decide))
theorem p_draw6 {m a z : Int} {n : NS} {x y : Option D} {q : D → NS → Prop} {e : DX} (hm : 0 < m) (hm2 : m < 1073741824) (ha : 0 ≤ a ∧ a < 1000000) (h : ∀ k : Int, 0 ≤ k → k < m → q (.int k) n) : u__law_draw_6 K A cs { nx := fun _ n' => q .non n', rt := q, ex := e } [some .pen, some (.int m), x, some (.int a), some (.int z), y] n := by
  unfold u__law_draw_6
  simp only [dSeq, dNext, dIfS, dTest, dOp, dVar, dC, dRet, dRetN, dGet, dAnd, dOr, dNot, dAndV, dOrV, dNotV, dIf, dNil, dCons, dTup, dLst, dCB, dM0, dM1, dDrop, dAsg, dgName, dPar, dCal, dChain, dRaise, dRaise2, dFor, diSeq, items, diRange1, diRange2, dLc, dYes, dgTup, dgCons, dgNil, dSl, dPart, dNoPart, dNeg, dPenC, dPenA, dPenL, dPutA, dPutL, dFld, dgFld, dNew, dMet, dLstM, dFrz, dApp, dgIx, dAug, startD, List.map_cons, List.map_nil, List.length_cons, List.length_nil, List.replicate, Nat.reduceAdd, Nat.reduceSub, List.cons_append, List.nil_append, List.append_nil, List.set_cons_zero, List.set_cons_succ, List.getElem?_cons_zero, List.getElem?_cons_succ, gLt, gOrd, gLen, List.length_map]
  intro hc
  by_cases c : a < (cs.length : Int)
  · simp only [c, decide_true, gPow, gI, gGe, gOrd]
    refine ⟨⟨by decide, by decide, by decide⟩, ?_⟩
    by_cases d : (10 : Int) ^ Int.toNat 18 ≤ z
    · simp only [d, decide_true, DL.gSub, gI0, gDiv, gI, gInt, gMod]
      refine ⟨⟨by decide, by decide, by decide⟩, ⟨hm, .inl hm2⟩, Int.ediv_nonneg (by omega) (by omega), ⟨by decide, by decide, by decide⟩, hm, ?_⟩
      exact h _ (bound_mod hm).1 (bound_mod hm).2
    · simp only [d, decide_false]
      exact p_draw7 hm ha h
  · simp only [c, decide_false]
    exact p_draw7 hm ha h
theorem p__law_draw (ds : List D) (n : NS) (q : D → NS → Prop) (e : DY) (hl : ds.length = 2) (h : s__law_draw A ds n q e) : t__law_draw K A cs { nx := fun _ n' => q .non n', rt := q, ex := fun _ => e } (startD N__law_draw ds) n := by
  obtain ⟨m, rfl, hm, hm2, hn, h⟩ := h
  unfold t__law_draw u__law_draw_2 u__law_draw_3 u__law_draw_4 u__law_draw_5
  simp only [dSeq, dNext, dIfS, dTest, dOp, dVar, dC, dRet, dRetN, dGet, dAnd, dOr, dNot, dAndV, dOrV, dNotV, dIf, dNil, dCons, dTup, dLst, dCB, dM0, dM1, dDrop, dAsg, dgName, dPar, dCal, dChain, dRaise, dRaise2, dFor, diSeq, items, diRange1, diRange2, dLc, dYes, dgTup, dgCons, dgNil, dSl, dPart, dNoPart, dNeg, dPenC, dPenA, dPenL, dPutA, dPutL, dFld, dgFld, dNew, dMet, dLstM, dFrz, dApp, dgIx, dAug, startD, List.map_cons, List.map_nil, List.length_cons, List.length_nil, List.replicate, Nat.reduceAdd, Nat.reduceSub, List.cons_append, List.nil_append, List.append_nil, List.set_cons_zero, List.set_cons_succ, List.getElem?_cons_zero, List.getElem?_cons_succ, gGe, gOrd]
  intro l hl0
  by_cases c : m ≤ l
  · simp only [c, decide_true, gInt, gMod, gI, gDiv]
    intro l1 hl1
    refine ⟨hm, fun l2 hl2 => ⟨⟨hm, .inl hm2⟩, Int.ediv_nonneg hl2 (by omega), ?_⟩⟩
    exact h _ _ (Int.emod_nonneg _ (by omega)) (Int.emod_lt_of_pos _ hm) (Nat.le_refl _) (Nat.le_succ _)
  · simp only [c, decide_false]
    intro a ha0 ha1
    simp only [gAdd, gMul, gI]
    refine ⟨⟨by omega, by omega⟩, mul_l (by decide), ?_⟩
    simp only [gNe]
    intro hc
    refine ⟨by decide, ne_nil cs _ ?_⟩
    have fin : ∀ (z : Int), u__law_draw_6 K A cs { nx := fun _ n' => q .non n', rt := q, ex := fun _ => e } [some .pen, some (.int m), none, some (.int a), some (.int z), none] ⟨n.at_ + 1, n.mu⟩ := fun z =>
      p_draw6 hm hm2 ⟨ha0, by unfold lim at hn; omega⟩ fun k h1 h2 => h k _ h1 h2 (Nat.le_succ _) (Nat.le_refl _)
    by_cases d : cs = []
    · simp only [d, decide_true, Bool.not_true]
      rw [← d]
      exact fin _
    · simp only [d, decide_false, Bool.not_false, gInt, gLen, gMod, gI, gIx, List.length_map]
      have hpos : 0 < cs.length := List.length_pos_iff.mpr d
      have hp : (0 : Int) < (cs.length : Int) := by omega
      have hb := bound_mod (x := a) hp
      intro _ _
      obtain ⟨j, hj⟩ : ∃ j : Nat, a % (cs.length : Int) = j := ⟨(a % (cs.length : Int)).toNat, by omega⟩
      refine ⟨hp, .int (cs[j]'(by omega)), ?_, fin _⟩
      rw [hj]
      unfold L2.atI L2.ixN
      rw [if_pos (by omega), if_pos (by rw [List.length_map]; omega)]
      simp
theorem p__law_pick (ds : List D) (n : NS) (q : D → NS → Prop) (e : DY) (hl : ds.length = 2) (h : s__law_pick A ds n q e) : t__law_pick K A cs { nx := fun _ n' => q .non n', rt := q, ex := fun _ => e } (startD N__law_pick ds) n := by
  obtain ⟨xs, rfl, h0, h1, hn, h⟩ := h
  unfold t__law_pick
  simp only [dSeq, dNext, dIfS, dTest, dOp, dVar, dC, dRet, dRetN, dGet, dAnd, dOr, dNot, dAndV, dOrV, dNotV, dIf, dNil, dCons, dTup, dLst, dCB, dM0, dM1, dDrop, dAsg, dgName, dPar, dCal, dChain, dRaise, dRaise2, dFor, diSeq, items, diRange1, diRange2, dLc, dYes, dgTup, dgCons, dgNil, dSl, dPart, dNoPart, dNeg, dPenC, dPenA, dPenL, dPutA, dPutL, dFld, dgFld, dNew, dMet, dLstM, dFrz, dApp, dgIx, dAug, startD, List.map_cons, List.map_nil, List.length_cons, List.length_nil, List.replicate, Nat.reduceAdd, Nat.reduceSub, List.cons_append, List.nil_append, List.append_nil, List.set_cons_zero, List.set_cons_succ, List.getElem?_cons_zero, List.getElem?_cons_succ, gLen]
  refine ⟨trivial, _, rfl, by omega, by omega, hn, fun k t hk hk2 hn1 hn2 => ?_⟩
  obtain ⟨j, rfl⟩ : ∃ j : Nat, k = j := ⟨k.toNat, by omega⟩
  simp only [gIx]
  exact ⟨_, atI_nat (by omega), h _ _ (List.getElem_mem _) hn1 hn2⟩
end
end K00

set_option Elab.async false
set_option linter.all false
set_option maxRecDepth 100000
set_option maxHeartbeats 8000000
set_option autoImplicit false
namespace K00
open PySem PySem.Spec PyProof.Rows L2 DL
/-- a comprehension whose item's value is f of the item -/
theorem lc_pure {i : Nat} {vs : List Nat} {te : DTE} {f : D → D} {δ : DEnv} {n : NS} {q : List D → NS → Prop} : ∀ (ds acc : List D), (∀ d ∈ ds, ∀ (m : Addr → Option MO) (Q : D → NS → Prop), Q (f d) ⟨n.at_, m⟩ → te ((wipeD δ vs).set i (some d)) ⟨n.at_, m⟩ Q noX) → acc.length + ds.length < 100000 → q (acc ++ ds.map f) n → dLcL (dgName i) dYes te vs ds acc δ n q
  | [], acc, _, _, h => by
    simp only [List.map_nil, List.append_nil] at h
    exact h
  | d :: ds, acc, ht, hl, h => by
    simp only [List.length_cons] at hl
    simp only [dLcL, dgName, dYes]
    refine ⟨by omega, fun m _ => ht d List.mem_cons_self m _ ⟨rfl, ?_⟩⟩
    refine lc_pure ds _ (fun e he => ht e (List.mem_cons_of_mem _ he)) (by simp only [List.length_append, List.length_cons, List.length_nil]; omega) ?_
    rw [List.append_assoc]
    exact h
/-- where k stands among different ones -/
theorem one_at {L : List Addr} (h : L.Nodup) {k : Nat} (hk : k < L.length) {C : Addr} (hC : L[k]? = some C) : (L.map fun b => D.int (if C = b then 1 else 0)) = List.replicate k (D.int 0) ++ [D.int 1] ++ List.replicate (L.length - 1 - k) (D.int 0) := by
  have hC' : L[k] = C := (List.getElem?_eq_some_iff.mp hC).2
  subst hC'
  apply List.ext_getElem
  · simp only [List.length_map, List.length_append, List.length_replicate, List.length_cons, List.length_nil]
    omega
  · intro i h1 h2
    simp only [List.length_map] at h1
    rw [List.getElem_map]
    by_cases c : i = k
    · subst c
      rw [if_pos rfl, List.getElem_append_left (by simp), List.getElem_append_right (by simp)]
      simp
    · have pw := List.pairwise_iff_getElem.mp h
      have ne : L[k] ≠ L[i] := by
        rcases Nat.lt_or_gt_of_ne c with z | z
        · exact (pw i k h1 hk z).symm
        · exact pw k i hk h1 z
      rw [if_neg ne]
      by_cases c2 : i < k
      · rw [List.getElem_append_left (by simp; omega), List.getElem_append_left (by simpa using c2), List.getElem_replicate]
      · rw [List.getElem_append_right (by simp; omega), List.getElem_replicate]
section
variable {P : Program} {K : PySem.W.Frag} {mg : Str → Option Value} {A : Ad} {cs : List Int}
theorem p__law_alone (ds : List D) (n : NS) (q : D → NS → Prop) (e : DY) (hl : ds.length = 1) (h : s__law_alone A ds n q e) : t__law_alone K A cs { nx := fun _ n' => q .non n', rt := q, ex := fun _ => e } (startD N__law_alone ds) n := by
  obtain ⟨x, rfl, h⟩ := h
  unfold t__law_alone
  simp only [dSeq, dNext, dIfS, dTest, dOp, dVar, dC, dRet, dRetN, dGet, dAnd, dOr, dNot, dAndV, dOrV, dNotV, dIf, dNil, dCons, dTup, dLst, dCB, dM0, dM1, dDrop, dAsg, dgName, dPar, dCal, dChain, dRaise, dRaise2, dFor, diSeq, items, diRange1, diRange2, dLc, dYes, dgTup, dgCons, dgNil, dSl, dPart, dNoPart, dNeg, dPenC, dPenA, dPenL, dPutA, dPutL, dFld, dgFld, dNew, dMet, dLstM, dFrz, dApp, dgIx, dAug, startD, List.map_cons, List.map_nil, List.length_cons, List.length_nil, List.replicate, Nat.reduceAdd, Nat.reduceSub, List.cons_append, List.nil_append, List.append_nil, List.set_cons_zero, List.set_cons_succ, List.getElem?_cons_zero, List.getElem?_cons_succ, dErrF, dErr1]
  repeat' (first | exact h | refine ⟨x, rfl, ?_⟩ | refine ⟨by simp, x, rfl, ?_⟩ | refine ⟨by decide, ?_⟩)
theorem p__law_more (ds : List D) (n : NS) (q : D → NS → Prop) (e : DY) (hl : ds.length = 2) (h : s__law_more A ds n q e) : t__law_more K A cs { nx := fun _ n' => q .non n', rt := q, ex := fun _ => e } (startD N__law_more ds) n := by
  obtain ⟨t0, μ⟩ := n
  obtain ⟨x, y, rfl, h⟩ := h
  unfold t__law_more
  simp only [dForg, dSeq, dNext, dIfS, dTest, dOp, dVar, dC, dRet, dRetN, dGet, dAnd, dOr, dNot, dAndV, dOrV, dNotV, dIf, dNil, dCons, dTup, dLst, dCB, dM0, dM1, dDrop, dAsg, dgName, dPar, dCal, dChain, dRaise, dRaise2, dFor, diSeq, items, diRange1, diRange2, dLc, dYes, dgTup, dgCons, dgNil, dSl, dPart, dNoPart, dNeg, dPenC, dPenA, dPenL, dPutA, dPutL, dFld, dgFld, dNew, dMet, dLstM, dFrz, dApp, dgIx, dAug, startD, List.map_cons, List.map_nil, List.length_cons, List.length_nil, List.replicate, Nat.reduceAdd, Nat.reduceSub, List.cons_append, List.nil_append, List.append_nil, List.set_cons_zero, List.set_cons_succ, List.getElem?_cons_zero, List.getElem?_cons_succ, dErrF, dErr2, dErr2m]
  refine ⟨by decide, fun p hp => ?_⟩
  have fin : q (.lst ([x, y, x, y, x, y, x, y, x, y, x, y].map fun z => .tup [z, z])) ⟨t0, μ⟩ := h
  have hb : mup μ p none = μ := mup_back hp
  repeat' (first
    | (refine ⟨p, _, _, rfl, mup_same, rfl, ⟨t0, μ⟩, ?_, fin⟩; simp only [mup_mup]; rw [hb]; exact NS.Sub.refl _)
    | refine ⟨p, rfl, ⟨_, mup_same⟩, ?_⟩
    | refine ⟨trivial, ?_⟩
    | refine ⟨x, y, rfl, ?_⟩ | refine ⟨y, x, rfl, ?_⟩
    | refine ⟨by simp, x, rfl, ?_⟩ | refine ⟨by simp, y, rfl, ?_⟩
    | refine ⟨by decide, ?_⟩
    | refine ⟨_, mup_same, by simp, ?_⟩)
theorem p__law_kinds (T : Txt P K mg A) (ds : List D) (n : NS) (q : D → NS → Prop) (e : DY) (hl : ds.length = 1) (h : s__law_kinds A ds n q e) : t__law_kinds K A cs { nx := fun _ n' => q .non n', rt := q, ex := fun _ => e } (startD N__law_kinds ds) n := by
  obtain ⟨C, ns, xs, rfl, hC, h⟩ := h
  have kk : ∀ b ∈ errs A, PySem.W.kitOne K (.ref C) (.ref b) = some (decide (C = b)) := T.kk C hC
  have one : ∀ {b : Addr} {n' : NS} {q' : D → NS → Prop}, b ∈ errs A → q' (.bl (decide (C = b))) n' → gIsX K [.err C ns xs, .ref b] n' q' := fun hb hq => ⟨T.xc C hC, _, _, rfl, kk _ hb, hq⟩
  have f : ∀ b : Addr, (if decide (C = b) = true then (1 : Int) else 0) = if C = b then 1 else 0 := fun b => by simp
  have go : ∀ x2 : Option D, u__law_kinds_9 K A cs { nx := fun _ n' => q .non n', rt := q, ex := fun _ => e } [some (.err C ns xs), some (.lst ((errs A).map fun b => .bl (decide (C = b)))), x2] n := fun x2 => by
    unfold u__law_kinds_9
    simp only [dSeq, dNext, dIfS, dTest, dOp, dVar, dC, dRet, dRetN, dGet, dAnd, dOr, dNot, dAndV, dOrV, dNotV, dIf, dNil, dCons, dTup, dLst, dCB, dM0, dM1, dDrop, dAsg, dgName, dPar, dCal, dChain, dRaise, dRaise2, dFor, diSeq, items, diRange1, diRange2, dLc, dYes, dgTup, dgCons, dgNil, dSl, dPart, dNoPart, dNeg, dPenC, dPenA, dPenL, dPutA, dPutL, dFld, dgFld, dNew, dMet, dLstM, dFrz, dApp, dgIx, dAug, startD, List.map_cons, List.map_nil, List.length_cons, List.length_nil, List.replicate, Nat.reduceAdd, Nat.reduceSub, List.cons_append, List.nil_append, List.append_nil, List.set_cons_zero, List.set_cons_succ, List.getElem?_cons_zero, List.getElem?_cons_succ]
    refine lc_pure (f := fun d => match d with | .bl b => .int (if b then 1 else 0) | d => d) _ _ (fun d hd m Q hQ => ?_) (by simp [errs]) ?_
    · simp only [List.mem_map] at hd
      obtain ⟨b, hb, rfl⟩ := hd
      simp only [wipeD, dSeq, dNext, dIfS, dTest, dOp, dVar, dC, dRet, dRetN, dGet, dAnd, dOr, dNot, dAndV, dOrV, dNotV, dIf, dNil, dCons, dTup, dLst, dCB, dM0, dM1, dDrop, dAsg, dgName, dPar, dCal, dChain, dRaise, dRaise2, dFor, diSeq, items, diRange1, diRange2, dLc, dYes, dgTup, dgCons, dgNil, dSl, dPart, dNoPart, dNeg, dPenC, dPenA, dPenL, dPutA, dPutL, dFld, dgFld, dNew, dMet, dLstM, dFrz, dApp, dgIx, dAug, startD, List.map_cons, List.map_nil, List.length_cons, List.length_nil, List.replicate, Nat.reduceAdd, Nat.reduceSub, List.cons_append, List.nil_append, List.append_nil, List.set_cons_zero, List.set_cons_succ, List.getElem?_cons_zero, List.getElem?_cons_succ, gInt]
      exact hQ
    · simp only [List.map_map, Function.comp_def, f, List.nil_append]
      exact h
  unfold t__law_kinds u__law_kinds_2 u__law_kinds_3 u__law_kinds_4 u__law_kinds_5 u__law_kinds_6 u__law_kinds_7 u__law_kinds_8
  simp only [dSeq, dNext, dIfS, dTest, dOp, dVar, dC, dRet, dRetN, dGet, dAnd, dOr, dNot, dAndV, dOrV, dNotV, dIf, dNil, dCons, dTup, dLst, dCB, dM0, dM1, dDrop, dAsg, dgName, dPar, dCal, dChain, dRaise, dRaise2, dFor, diSeq, items, diRange1, diRange2, dLc, dYes, dgTup, dgCons, dgNil, dSl, dPart, dNoPart, dNeg, dPenC, dPenA, dPenL, dPutA, dPutL, dFld, dgFld, dNew, dMet, dLstM, dFrz, dApp, dgIx, dAug, startD, List.map_cons, List.map_nil, List.length_cons, List.length_nil, List.replicate, Nat.reduceAdd, Nat.reduceSub, List.cons_append, List.nil_append, List.append_nil, List.set_cons_zero, List.set_cons_succ, List.getElem?_cons_zero, List.getElem?_cons_succ, gAdd]
  refine ⟨by decide, ?_⟩
  repeat' (first
    | exact go _
    | refine one (by simp [errs]) ?_
    | refine ⟨by decide, ?_⟩
    | refine ⟨by simp, ?_⟩)
end
end K00

set_option Elab.async false
set_option linter.all false
set_option maxRecDepth 100000
set_option maxHeartbeats 8000000
set_option autoImplicit false
namespace K00
open PySem PySem.Spec PyProof.Rows L2 DL
theorem err_in {A : Ad} {x y d : D} (h : d ∈ errD A x y) : ∃ C ns xs, d = .err C ns xs ∧ C ∈ errs A := by
  simp only [errD, List.mem_cons, List.not_mem_nil, or_false] at h
  rcases h with rfl | rfl | rfl | rfl | rfl | rfl | rfl | rfl | rfl | rfl | rfl | rfl | rfl | rfl | rfl | rfl | rfl | rfl | rfl <;> exact ⟨_, _, _, rfl, by simp [errs]⟩
theorem err_get {A : Ad} {x y : D} {k : Nat} (h : k < 19) : ∃ C ns xs, (errD A x y)[k]? = some (.err C ns xs) ∧ (errs A)[k]? = some C := by
  have e : (errD A x y).length = 19 := rfl
  have hk : k = 0 ∨ k = 1 ∨ k = 2 ∨ k = 3 ∨ k = 4 ∨ k = 5 ∨ k = 6 ∨ k = 7 ∨ k = 8 ∨ k = 9 ∨ k = 10 ∨ k = 11 ∨ k = 12 ∨ k = 13 ∨ k = 14 ∨ k = 15 ∨ k = 16 ∨ k = 17 ∨ k = 18 := by omega
  rcases hk with rfl | rfl | rfl | rfl | rfl | rfl | rfl | rfl | rfl | rfl | rfl | rfl | rfl | rfl | rfl | rfl | rfl | rfl | rfl <;> exact ⟨_, _, _, rfl, rfl⟩
theorem eqv_ints : ∀ ns : List Int, PyData.eqvAll (ns.map PyData.int) (ns.map PyData.int) = true
  | [] => rfl
  | n :: ns => by
    simp only [List.map_cons, PyData.eqvAll, eqv_ints ns, Bool.and_true]
    simp [PyData.eqv]
theorem eq_ints (ns : List Int) (k : Bool → Prop) (h : k true) : eqD (.lst (ns.map D.int)) (.lst (ns.map D.int)) k := by
  refine ⟨.list (ns.map PyData.int), .list (ns.map PyData.int), by simp only [py, py_ints, Option.map_some], by simp only [py, py_ints, Option.map_some], shaped_int ns, shaped_int ns, ?_⟩
  have e : PyData.eqv (.list (ns.map PyData.int)) (.list (ns.map PyData.int)) = true := by
    simp only [PyData.eqv, eqv_ints]
  rw [e]
  exact h
theorem flat_rep {α : Type} (x : α) : ∀ k : Nat, (List.replicate k [x]).flatten = List.replicate k x
  | 0 => rfl
  | k + 1 => by
    rw [List.replicate_succ, List.flatten_cons, flat_rep x k]
    rfl
section
variable {P : Program} {K : PySem.W.Frag} {mg : Str → Option Value} {A : Ad} {cs : List Int}
theorem apart7 (T : Txt P K mg A) {k : DEnds} {n : NS} {u : DTS} {x0 x1 x3 x4 x5 : Option D} (L : List D) (hL : ∀ d ∈ L, ∃ C ns xs, d = .err C ns xs ∧ C ∈ errs A) (hl : L.length < 1000) (H : u k [x0, x1, some (.lst L), x3, x4, x5] n) :
    (dSeq (dIfS (dNot (dTest (dCB gAll (dCons (dLc (diSeq (dVar 2)) (dgName 3) dYes (dAndV (dCB (gIsX K) (dCons (dVar 3) (dCons (dC (.ref A.SheetError)) dNil))) (dCB (gIsX K) (dCons (dVar 3) (dCons (dC (.ty "ValueError")) dNil)))) [3]) dNil)))) (dRet (dC (.bl false))) dNext) u) k [x0, x1, some (.lst L), x3, x4, x5] n := by
  simp only [dSeq, dNext, dIfS, dTest, dOp, dVar, dC, dRet, dRetN, dGet, dAnd, dOr, dNot, dAndV, dOrV, dNotV, dIf, dNil, dCons, dTup, dLst, dCB, dM0, dM1, dDrop, dAsg, dgName, dPar, dCal, dChain, dRaise, dRaise2, dFor, diSeq, items, diRange1, diRange2, dLc, dYes, dgTup, dgCons, dgNil, dSl, dPart, dNoPart, dNeg, dPenC, dPenA, dPenL, dPutA, dPutL, dFld, dgFld, dNew, dMet, dLstM, dFrz, dApp, dgIx, dAug, startD, List.map_cons, List.map_nil, List.length_cons, List.length_nil, List.replicate, Nat.reduceAdd, Nat.reduceSub, List.cons_append, List.nil_append, List.append_nil, List.set_cons_zero, List.set_cons_succ, List.getElem?_cons_zero, List.getElem?_cons_succ]
  refine lc_pure (f := fun _ => D.bl true) _ _ (fun d hd m Q hQ => ?_) (by simp only [List.length_nil]; omega) ?_
  · obtain ⟨C, ns, xs, rfl, hC⟩ := hL d hd
    simp only [wipeD, dSeq, dNext, dIfS, dTest, dOp, dVar, dC, dRet, dRetN, dGet, dAnd, dOr, dNot, dAndV, dOrV, dNotV, dIf, dNil, dCons, dTup, dLst, dCB, dM0, dM1, dDrop, dAsg, dgName, dPar, dCal, dChain, dRaise, dRaise2, dFor, diSeq, items, diRange1, diRange2, dLc, dYes, dgTup, dgCons, dgNil, dSl, dPart, dNoPart, dNeg, dPenC, dPenA, dPenL, dPutA, dPutL, dFld, dgFld, dNew, dMet, dLstM, dFrz, dApp, dgIx, dAug, startD, List.map_cons, List.map_nil, List.length_cons, List.length_nil, List.replicate, Nat.reduceAdd, Nat.reduceSub, List.cons_append, List.nil_append, List.append_nil, List.set_cons_zero, List.set_cons_succ, List.getElem?_cons_zero, List.getElem?_cons_succ]
    refine ⟨T.xc C hC, _, _, rfl, T.kS C hC, ?_⟩
    exact ⟨T.xc C hC, _, _, rfl, T.kV C hC, hQ⟩
  have e1 : [] ++ L.map (fun _ => D.bl true) = (L.map fun _ => true).map D.bl := by simp
  rw [e1]
  simp only [gAll, blsD_map]
  have e2 : (L.map fun _ => true).all id = true := by simp
  rw [e2]
  exact H
theorem apart9 (T : Txt P K mg A) {k : DEnds} {n : NS} {x0 x1 x3 x5 : Option D} (L : List D) (m : Nat) (hm : m < 1000) (hl : L.length = m) (he : (errs A).length = m) (hL : ∀ i, i < m → ∃ C ns xs, L[i]? = some (.err C ns xs) ∧ (errs A)[i]? = some C) (H : k.rt (.bl true) n) :
    (dRet (dCB gAll (dCons (dLc (diRange1 (dCons (dCB gLen (dCons (dVar 2) dNil)) dNil)) (dgName 5) dYes (dOp gEq (dCal 1 (s__law_kinds A) (dCons (dOp gIx (dVar 2) (dVar 5)) dNil)) (dOp gAdd (dOp gAdd (dOp gMulL (dLst (dCons (dC (.int 0)) dNil)) (dVar 5)) (dLst (dCons (dC (.int 1)) dNil))) (dOp gMulL (dLst (dCons (dC (.int 0)) dNil)) (dOp gSub (dVar 4) (dVar 5))))) [5]) dNil))) k [x0, x1, some (.lst L), x3, some (.int ((m : Nat) - 1)), x5] n := by
  simp only [dSeq, dNext, dIfS, dTest, dOp, dVar, dC, dRet, dRetN, dGet, dAnd, dOr, dNot, dAndV, dOrV, dNotV, dIf, dNil, dCons, dTup, dLst, dCB, dM0, dM1, dDrop, dAsg, dgName, dPar, dCal, dChain, dRaise, dRaise2, dFor, diSeq, items, diRange1, diRange2, dLc, dYes, dgTup, dgCons, dgNil, dSl, dPart, dNoPart, dNeg, dPenC, dPenA, dPenL, dPutA, dPutL, dFld, dgFld, dNew, dMet, dLstM, dFrz, dApp, dgIx, dAug, startD, List.map_cons, List.map_nil, List.length_cons, List.length_nil, List.replicate, Nat.reduceAdd, Nat.reduceSub, List.cons_append, List.nil_append, List.append_nil, List.set_cons_zero, List.set_cons_succ, List.getElem?_cons_zero, List.getElem?_cons_succ, gLen]
  refine ⟨by omega, by omega, ?_⟩
  refine lc_pure (f := fun _ => D.bl true) _ _ (fun d hd mm Q hQ => ?_) (by simp only [rangeD, List.length_map, List.length_range, List.length_nil]; omega) ?_
  · unfold rangeD at hd
    simp only [List.mem_map, List.mem_range] at hd
    obtain ⟨i, hi, rfl⟩ := hd
    have hi : i < m := by omega
    obtain ⟨C, ns, xs, g1, g2⟩ := hL i hi
    simp only [wipeD, dSeq, dNext, dIfS, dTest, dOp, dVar, dC, dRet, dRetN, dGet, dAnd, dOr, dNot, dAndV, dOrV, dNotV, dIf, dNil, dCons, dTup, dLst, dCB, dM0, dM1, dDrop, dAsg, dgName, dPar, dCal, dChain, dRaise, dRaise2, dFor, diSeq, items, diRange1, diRange2, dLc, dYes, dgTup, dgCons, dgNil, dSl, dPart, dNoPart, dNeg, dPenC, dPenA, dPenL, dPutA, dPutL, dFld, dgFld, dNew, dMet, dLstM, dFrz, dApp, dgIx, dAug, startD, List.map_cons, List.map_nil, List.length_cons, List.length_nil, List.replicate, Nat.reduceAdd, Nat.reduceSub, List.cons_append, List.nil_append, List.append_nil, List.set_cons_zero, List.set_cons_succ, List.getElem?_cons_zero, List.getElem?_cons_succ, gIx]
    have e4 : L2.atI L (0 + (i : Nat)) = some (.err C ns xs) := by
      rw [Int.zero_add, atI_nat (by omega)]
      rw [← g1, List.getElem?_eq_getElem (by omega)]
    refine ⟨_, e4, trivial, C, ns, xs, rfl, List.mem_of_getElem? g2, ?_⟩
    rw [one_at T.nd (by omega) g2, he]
    simp only [gMulL, gAdd]
    refine ⟨by decide, by omega, by omega, by simp only [List.length_cons, List.length_nil]; omega, ?_⟩
    have e6 : (0 + (i : Int)).toNat = i := by omega
    have e7 : (((m : Nat) : Int) - 1 - (0 + (i : Int))).toNat = m - 1 - i := by omega
    simp only [e6, flat_rep]
    refine ⟨by simp, by simp only [List.length_replicate, List.length_cons, List.length_nil]; omega, by decide, ?_⟩
    simp only [DL.gSub, gI0]
    refine ⟨by omega, by omega, by simp only [List.length_cons, List.length_nil]; omega, ?_⟩
    simp only [e7, flat_rep]
    refine ⟨by simp only [List.length_replicate, List.length_append, List.length_cons, List.length_nil]; omega, ?_⟩
    have e8 : List.replicate i (D.int 0) ++ [D.int 1] ++ List.replicate (m - 1 - i) (D.int 0) = (List.replicate i (0 : Int) ++ [1] ++ List.replicate (m - 1 - i) 0).map D.int := by simp
    rw [e8]
    exact eq_ints _ _ hQ
  have e4 : [] ++ (rangeD 0 (L.length : Int).toNat).map (fun _ => D.bl true) = ((rangeD 0 (L.length : Int).toNat).map fun _ => true).map D.bl := by simp
  rw [e4]
  simp only [gAll, blsD_map]
  have e2 : ((rangeD 0 (L.length : Int).toNat).map fun _ => true).all id = true := by simp
  rw [e2]
  exact H
theorem apart789 (T : Txt P K mg A) {k : DEnds} {n : NS} {x y : D} {x3 x4 x5 : Option D} (H : k.rt (.bl true) n) : u__law_apart_7 K A cs k [some x, some y, some (.lst (errD A x y)), x3, x4, x5] n := by
  unfold u__law_apart_7
  refine apart7 T (errD A x y) (fun d hd => err_in hd) (by simp [errD]) ?_
  unfold u__law_apart_8
  have go : ∀ (L : List D) (u : DTS), L.length = 19 → u k [some x, some y, some (.lst L), x3, some (.int ((19 : Nat) - 1)), x5] n → (dSeq (dAsg (dOp gSub (dCB gLen (dCons (dVar 2) dNil)) (dC (.int 1))) (dgName 4)) u) k [some x, some y, some (.lst L), x3, x4, x5] n := fun L u hl h => by
    simp only [dSeq, dNext, dIfS, dTest, dOp, dVar, dC, dRet, dRetN, dGet, dAnd, dOr, dNot, dAndV, dOrV, dNotV, dIf, dNil, dCons, dTup, dLst, dCB, dM0, dM1, dDrop, dAsg, dgName, dPar, dCal, dChain, dRaise, dRaise2, dFor, diSeq, items, diRange1, diRange2, dLc, dYes, dgTup, dgCons, dgNil, dSl, dPart, dNoPart, dNeg, dPenC, dPenA, dPenL, dPutA, dPutL, dFld, dgFld, dNew, dMet, dLstM, dFrz, dApp, dgIx, dAug, startD, List.map_cons, List.map_nil, List.length_cons, List.length_nil, List.replicate, Nat.reduceAdd, Nat.reduceSub, List.cons_append, List.nil_append, List.append_nil, List.set_cons_zero, List.set_cons_succ, List.getElem?_cons_zero, List.getElem?_cons_succ, gLen, DL.gSub, gI0, hl]
    exact h
  refine go _ _ rfl ?_
  unfold u__law_apart_9
  exact apart9 T (errD A x y) 19 (by decide) rfl rfl (fun i hi => err_get hi) H
theorem p__law_apart (T : Txt P K mg A) (ds : List D) (n : NS) (q : D → NS → Prop) (e : DY) (hl : ds.length = 2) (h : s__law_apart A ds n q e) : t__law_apart K A cs { nx := fun _ n' => q .non n', rt := q, ex := fun _ => e } (startD N__law_apart ds) n := by
  obtain ⟨t0, μ⟩ := n
  obtain ⟨x, y, rfl, h⟩ := h
  unfold t__law_apart u__law_apart_2 u__law_apart_3 u__law_apart_4 u__law_apart_5 u__law_apart_6
  simp only [dSeq, dNext, dIfS, dTest, dOp, dVar, dC, dRet, dRetN, dGet, dAnd, dOr, dNot, dAndV, dOrV, dNotV, dIf, dNil, dCons, dTup, dLst, dCB, dM0, dM1, dDrop, dAsg, dgName, dPar, dCal, dChain, dRaise, dRaise2, dFor, diSeq, items, diRange1, diRange2, dLc, dYes, dgTup, dgCons, dgNil, dSl, dPart, dNoPart, dNeg, dPenC, dPenA, dPenL, dPutA, dPutL, dFld, dgFld, dNew, dMet, dLstM, dFrz, dApp, dgIx, dAug, startD, List.map_cons, List.map_nil, List.length_cons, List.length_nil, List.replicate, Nat.reduceAdd, Nat.reduceSub, List.cons_append, List.nil_append, List.append_nil, List.set_cons_zero, List.set_cons_succ, List.getElem?_cons_zero, List.getElem?_cons_succ, gAdd, dErr1, dErr0, dErr2]
  repeat' (first
    | exact apart789 T h
    | refine ⟨x, rfl, ?_⟩
    | refine ⟨x, y, rfl, ?_⟩
    | refine ⟨by decide, ?_⟩
    | refine ⟨by simp, ?_⟩)
theorem p__law_raise (ds : List D) (n : NS) (q : D → NS → Prop) (e : DY) (hl : ds.length = 2) (h : s__law_raise A ds n q e) : t__law_raise K A cs { nx := fun _ n' => q .non n', rt := q, ex := fun _ => e } (startD N__law_raise ds) n := by
  obtain ⟨i, x, rfl, h0, h1, h2, h3, h4⟩ := h
  unfold t__law_raise
  simp only [dSeq, dNext, dIfS, dTest, dOp, dVar, dC, dRet, dRetN, dGet, dAnd, dOr, dNot, dAndV, dOrV, dNotV, dIf, dNil, dCons, dTup, dLst, dCB, dM0, dM1, dDrop, dAsg, dgName, dPar, dCal, dChain, dRaise, dRaise2, dFor, diSeq, items, diRange1, diRange2, dLc, dYes, dgTup, dgCons, dgNil, dSl, dPart, dNoPart, dNeg, dPenC, dPenA, dPenL, dPutA, dPutL, dFld, dgFld, dNew, dMet, dLstM, dFrz, dApp, dgIx, dAug, startD, List.map_cons, List.map_nil, List.length_cons, List.length_nil, List.replicate, Nat.reduceAdd, Nat.reduceSub, List.cons_append, List.nil_append, List.append_nil, List.set_cons_zero, List.set_cons_succ, List.getElem?_cons_zero, List.getElem?_cons_succ, dRaise0, dRaise2k, gEq, eqD, scEq]
  by_cases c0 : i = 0
  · simp only [decide_eq_true c0]
    exact h0 c0
  simp only [decide_eq_false c0]
  by_cases c1 : i = 1
  · simp only [decide_eq_true c1]
    exact ⟨trivial, h1 c1⟩
  simp only [decide_eq_false c1]
  by_cases c2 : i = 2
  · simp only [decide_eq_true c2]
    exact ⟨_, _, rfl, h2 c2⟩
  simp only [decide_eq_false c2]
  by_cases c3 : i = 3
  · simp only [decide_eq_true c3]
    exact ⟨trivial, h3 c3⟩
  simp only [decide_eq_false c3]
  exact h4 c0 c1 c2 c3
theorem p__law_caught (T : Txt P K mg A) (ds : List D) (n : NS) (q : D → NS → Prop) (e : DY) (hl : ds.length = 2) (h : s__law_caught A ds n q e) : t__law_caught K A cs { nx := fun _ n' => q .non n', rt := q, ex := fun _ => e } (startD N__law_caught ds) n := by
  obtain ⟨i, x, rfl, h⟩ := h
  unfold t__law_caught
  simp only [dSeq, dNext, dIfS, dTest, dOp, dVar, dC, dRet, dRetN, dGet, dAnd, dOr, dNot, dAndV, dOrV, dNotV, dIf, dNil, dCons, dTup, dLst, dCB, dM0, dM1, dDrop, dAsg, dgName, dPar, dCal, dChain, dRaise, dRaise2, dFor, diSeq, items, diRange1, diRange2, dLc, dYes, dgTup, dgCons, dgNil, dSl, dPart, dNoPart, dNeg, dPenC, dPenA, dPenL, dPutA, dPutL, dFld, dgFld, dNew, dMet, dLstM, dFrz, dApp, dgIx, dAug, startD, List.map_cons, List.map_nil, List.length_cons, List.length_nil, List.replicate, Nat.reduceAdd, Nat.reduceSub, List.cons_append, List.nil_append, List.append_nil, List.set_cons_zero, List.set_cons_succ, List.getElem?_cons_zero, List.getElem?_cons_succ, dTry, s__law_raise]
  refine ⟨trivial, i, x, rfl, fun _ => ?_, fun _ => ?_, fun _ => ?_, fun _ => ?_, fun _ _ _ _ => ?_⟩
  · exact ⟨true, T.m_NotTold, fun _ a dd => h, fun z => nomatch z⟩
  · exact ⟨true, T.m_TooMany, fun _ a dd => h, fun z => nomatch z⟩
  · exact ⟨true, T.m_OffGrid, fun _ a dd => h, fun z => nomatch z⟩
  · exact ⟨true, T.m_Unknown, fun _ a dd => h, fun z => nomatch z⟩
  · exact ⟨true, T.m_NothingToUndo, fun _ a dd => h, fun z => nomatch z⟩
end
end K00

set_option Elab.async false
set_option linter.all false
set_option maxRecDepth 100000
set_option maxHeartbeats 8000000
set_option autoImplicit false
namespace K00
open PySem PySem.Spec PyProof.Rows L2 DL
section
variable {P : Program} {K : PySem.W.Frag} {mg : Str → Option Value} {A : Ad} {cs : List Int}
def isB : D → Bool | .bl _ => true | _ => false
theorem ne_self {x : D} {n : NS} {q : D → NS → Prop} (h : x ∈ VALS) (hq : q (.bl false) n) : gNeX x x n q := by
  have tup : ∀ (x : D) (a : PyData), scEq x x = none → py x = some a → SeqAt.shaped a = true → PyData.eqv a a = true → eqD x x fun b => q (.bl (!b)) n := fun x a e1 e2 e3 e4 => by
    unfold eqD
    rw [e1]
    refine ⟨a, a, e2, e2, e3, e3, ?_⟩
    rw [e4]
    exact hq
  simp only [VALS, List.mem_cons, List.not_mem_nil, or_false] at h
  rcases h with rfl | rfl | rfl | rfl | rfl | rfl | rfl | rfl | rfl | rfl | rfl | rfl
  · exact hq
  · simp only [gNeX, gNe, eqD, scEq, decide_true]; exact hq
  · simp only [gNeX, gNe, eqD, scEq, decide_true]; exact hq
  · simp only [gNeX, gNe, eqD, scEq, decide_true]; exact hq
  · simp only [gNeX, gNe, eqD, scEq, decide_true]; exact hq
  · simp only [gNeX, gNe, eqD, scEq, decide_true]; exact hq
  · exact tup (.tup [.int 1, .int 2]) (.tuple [.int 1, .int 2]) rfl rfl (by decide +kernel) (by decide +kernel)
  · exact tup (.lst [.str [120]]) (.list [.str (DL.S [120])]) rfl rfl (by decide +kernel) (by decide +kernel)
  · exact hq
  · simp only [gNeX, gNe, eqD, scEq, decide_true]; exact hq
  · simp only [gNeX, gNe, eqD, scEq, decide_true]; exact hq
  · exact tup (.tup [.tup [.int 0, .int 1], .int 2]) (.tuple [.tuple [.int 0, .int 1], .int 2]) rfl rfl (by decide +kernel) (by decide +kernel)
theorem is_bool {x : D} {n : NS} {q : D → NS → Prop} (h : x ∈ VALS) (hq : q (.bl (isB x)) n) : gIsi K [x, .ty "bool"] n q := by
  simp only [VALS, List.mem_cons, List.not_mem_nil, or_false] at h
  rcases h with rfl | rfl | rfl | rfl | rfl | rfl | rfl | rfl | rfl | rfl | rfl | rfl <;> (simp only [gIsi, isiD, kindD, kit_int_int, kit_int_bool, kit_int_str, kit_int_list, kit_int_tuple, kit_bool_int, kit_bool_bool, kit_bool_str, kit_bool_list, kit_bool_tuple, kit_str_int, kit_str_bool, kit_str_str, kit_str_list, kit_str_tuple, kit_non_int, kit_non_bool, kit_non_str, kit_non_list, kit_non_tuple, kit_list_int, kit_list_bool, kit_list_str, kit_list_list, kit_list_tuple, kit_tuple_int, kit_tuple_bool, kit_tuple_str, kit_tuple_list, kit_tuple_tuple, kit_dct_bool]; exact hq)
theorem ne_bl (b : Bool) {n : NS} {q : D → NS → Prop} (hq : q (.bl false) n) : gNeX (.bl b) (.bl b) n q := by
  simp only [gNeX, gNe, eqD, scEq, decide_true]
  exact hq
theorem loop3 {k : DEnds} {x0 x1 x2 x3 x5 x8 x9 : Option D} {x : D} {n : NS} (h : x ∈ VALS) (H : ∀ y6 y7, k.nx [x0, x1, x2, x3, some x, x5, y6, y7, x8, x9] n) : ∀ (j : Nat) (x6 x7 : Option D), dForL (dgTup 2 (dgCons (dgName 6) (dgCons (dgName 7) dgNil))) (l_law_3 K A cs) (List.replicate j (.tup [x, x])) k [x0, x1, x2, x3, some x, x5, x6, x7, x8, x9] n
  | 0, x6, x7 => H x6 x7
  | j + 1, x6, x7 => by
    rw [List.replicate_succ]
    simp only [dForL, dSeq, dNext, dIfS, dTest, dOp, dVar, dC, dRet, dRetN, dGet, dAnd, dOr, dNot, dAndV, dOrV, dNotV, dIf, dNil, dCons, dTup, dLst, dCB, dM0, dM1, dDrop, dAsg, dgName, dPar, dCal, dChain, dRaise, dRaise2, dFor, diSeq, items, diRange1, diRange2, dLc, dYes, dgTup, dgCons, dgNil, dSl, dPart, dNoPart, dNeg, dPenC, dPenA, dPenL, dPutA, dPutL, dFld, dgFld, dNew, dMet, dLstM, dFrz, dApp, dgIx, dAug, startD, List.map_cons, List.map_nil, List.length_cons, List.length_nil, List.replicate, Nat.reduceAdd, Nat.reduceSub, List.cons_append, List.nil_append, List.append_nil, List.set_cons_zero, List.set_cons_succ, List.getElem?_cons_zero, List.getElem?_cons_succ]
    refine ⟨trivial, ?_⟩
    unfold l_law_3
    simp only [dSeq, dNext, dIfS, dTest, dOp, dVar, dC, dRet, dRetN, dGet, dAnd, dOr, dNot, dAndV, dOrV, dNotV, dIf, dNil, dCons, dTup, dLst, dCB, dM0, dM1, dDrop, dAsg, dgName, dPar, dCal, dChain, dRaise, dRaise2, dFor, diSeq, items, diRange1, diRange2, dLc, dYes, dgTup, dgCons, dgNil, dSl, dPart, dNoPart, dNeg, dPenC, dPenA, dPenL, dPutA, dPutL, dFld, dgFld, dNew, dMet, dLstM, dFrz, dApp, dgIx, dAug, startD, List.map_cons, List.map_nil, List.length_cons, List.length_nil, List.replicate, Nat.reduceAdd, Nat.reduceSub, List.cons_append, List.nil_append, List.append_nil, List.set_cons_zero, List.set_cons_succ, List.getElem?_cons_zero, List.getElem?_cons_succ]
    refine ne_self h ?_
    refine ne_self h ?_
    refine is_bool h (is_bool h (ne_bl _ ?_))
    exact loop3 h H j _ _
theorem loop2 {k : DEnds} {x0 x1 x2 x3 x4 x5 x7 x9 : Option D} {n : NS} (H : ∀ y6 y8, k.nx [x0, x1, x2, x3, x4, x5, y6, x7, y8, x9] n) : ∀ (zs : List D), (∀ z ∈ zs, z ∈ VALS) → ∀ (x6 x8 : Option D), dForL (dgTup 2 (dgCons (dgName 6) (dgCons (dgName 8) dgNil))) (l_law_2 K A cs) (zs.map fun z => .tup [z, z]) k [x0, x1, x2, x3, x4, x5, x6, x7, x8, x9] n
  | [], _, x6, x8 => H x6 x8
  | z :: zs, hz, x6, x8 => by
    rw [List.map_cons]
    simp only [dForL, dSeq, dNext, dIfS, dTest, dOp, dVar, dC, dRet, dRetN, dGet, dAnd, dOr, dNot, dAndV, dOrV, dNotV, dIf, dNil, dCons, dTup, dLst, dCB, dM0, dM1, dDrop, dAsg, dgName, dPar, dCal, dChain, dRaise, dRaise2, dFor, diSeq, items, diRange1, diRange2, dLc, dYes, dgTup, dgCons, dgNil, dSl, dPart, dNoPart, dNeg, dPenC, dPenA, dPenL, dPutA, dPutL, dFld, dgFld, dNew, dMet, dLstM, dFrz, dApp, dgIx, dAug, startD, List.map_cons, List.map_nil, List.length_cons, List.length_nil, List.replicate, Nat.reduceAdd, Nat.reduceSub, List.cons_append, List.nil_append, List.append_nil, List.set_cons_zero, List.set_cons_succ, List.getElem?_cons_zero, List.getElem?_cons_succ]
    refine ⟨trivial, ?_⟩
    have h := hz z List.mem_cons_self
    unfold l_law_2
    simp only [dSeq, dNext, dIfS, dTest, dOp, dVar, dC, dRet, dRetN, dGet, dAnd, dOr, dNot, dAndV, dOrV, dNotV, dIf, dNil, dCons, dTup, dLst, dCB, dM0, dM1, dDrop, dAsg, dgName, dPar, dCal, dChain, dRaise, dRaise2, dFor, diSeq, items, diRange1, diRange2, dLc, dYes, dgTup, dgCons, dgNil, dSl, dPart, dNoPart, dNeg, dPenC, dPenA, dPenL, dPutA, dPutL, dFld, dgFld, dNew, dMet, dLstM, dFrz, dApp, dgIx, dAug, startD, List.map_cons, List.map_nil, List.length_cons, List.length_nil, List.replicate, Nat.reduceAdd, Nat.reduceSub, List.cons_append, List.nil_append, List.append_nil, List.set_cons_zero, List.set_cons_succ, List.getElem?_cons_zero, List.getElem?_cons_succ]
    refine ne_self h ?_
    refine is_bool h (is_bool h (ne_bl _ ?_))
    exact loop2 H zs (fun u hu => hz u (List.mem_cons_of_mem _ hu)) _ _
theorem law_body {k : DEnds} {x0 x3 x4 x5 x6 x7 x8 x9 : Option D} {t0 : Nat} {μ : Addr → Option MO} (hn : t0 + 10 < 1000000)
    (H : ∀ y4 y5 y6 y7 y8 t, t0 ≤ t → t ≤ t0 + 2 → k.nx [x0, some .pen, some (.lst VALS), x3, y4, y5, y6, y7, y8, x9] ⟨t, μ⟩) : l_law_4 K A cs k [x0, some .pen, some (.lst VALS), x3, x4, x5, x6, x7, x8, x9] ⟨t0, μ⟩ := by
  unfold l_law_4
  simp only [dSeq, dNext, dIfS, dTest, dOp, dVar, dC, dRet, dRetN, dGet, dAnd, dOr, dNot, dAndV, dOrV, dNotV, dIf, dNil, dCons, dTup, dLst, dCB, dM0, dM1, dDrop, dAsg, dgName, dPar, dCal, dChain, dRaise, dRaise2, dFor, diSeq, items, diRange1, diRange2, dLc, dYes, dgTup, dgCons, dgNil, dSl, dPart, dNoPart, dNeg, dPenC, dPenA, dPenL, dPutA, dPutL, dFld, dgFld, dNew, dMet, dLstM, dFrz, dApp, dgIx, dAug, startD, List.map_cons, List.map_nil, List.length_cons, List.length_nil, List.replicate, Nat.reduceAdd, Nat.reduceSub, List.cons_append, List.nil_append, List.append_nil, List.set_cons_zero, List.set_cons_succ, List.getElem?_cons_zero, List.getElem?_cons_succ]
  refine ⟨trivial, _, rfl, by decide, by decide, by unfold lim; simp only; omega, fun x t1 hx h1 h2 => ?_⟩
  simp only at h1 h2 ⊢
  refine ⟨trivial, _, rfl, by decide, by decide, by unfold lim; simp only; omega, fun y t2 hy h3 h4 => ?_⟩
  simp only at h3 h4 ⊢
  refine ⟨by simp, trivial, trivial, x, rfl, ?_⟩
  refine loop3 hx (fun y6 y7 => ?_) 12 _ _
  simp only [dSeq, dNext, dIfS, dTest, dOp, dVar, dC, dRet, dRetN, dGet, dAnd, dOr, dNot, dAndV, dOrV, dNotV, dIf, dNil, dCons, dTup, dLst, dCB, dM0, dM1, dDrop, dAsg, dgName, dPar, dCal, dChain, dRaise, dRaise2, dFor, diSeq, items, diRange1, diRange2, dLc, dYes, dgTup, dgCons, dgNil, dSl, dPart, dNoPart, dNeg, dPenC, dPenA, dPenL, dPutA, dPutL, dFld, dgFld, dNew, dMet, dLstM, dFrz, dApp, dgIx, dAug, startD, List.map_cons, List.map_nil, List.length_cons, List.length_nil, List.replicate, Nat.reduceAdd, Nat.reduceSub, List.cons_append, List.nil_append, List.append_nil, List.set_cons_zero, List.set_cons_succ, List.getElem?_cons_zero, List.getElem?_cons_succ]
  refine ⟨trivial, x, y, rfl, ?_⟩
  refine loop2 (fun z6 z8 => ?_) _ (fun z hz => ?_) _ _
  · simp only [dSeq, dNext, dIfS, dTest, dOp, dVar, dC, dRet, dRetN, dGet, dAnd, dOr, dNot, dAndV, dOrV, dNotV, dIf, dNil, dCons, dTup, dLst, dCB, dM0, dM1, dDrop, dAsg, dgName, dPar, dCal, dChain, dRaise, dRaise2, dFor, diSeq, items, diRange1, diRange2, dLc, dYes, dgTup, dgCons, dgNil, dSl, dPart, dNoPart, dNeg, dPenC, dPenA, dPenL, dPutA, dPutL, dFld, dgFld, dNew, dMet, dLstM, dFrz, dApp, dgIx, dAug, startD, List.map_cons, List.map_nil, List.length_cons, List.length_nil, List.replicate, Nat.reduceAdd, Nat.reduceSub, List.cons_append, List.nil_append, List.append_nil, List.set_cons_zero, List.set_cons_succ, List.getElem?_cons_zero, List.getElem?_cons_succ]
    refine ⟨trivial, x, y, rfl, ?_⟩
    simp only [Bool.not_true]
    refine ⟨by decide, by decide, ?_⟩
    refine lc_pure (f := fun _ => D.bl true) _ _ (fun d hd m Q hQ => ?_) (by simp [rangeD]) ?_
    · unfold rangeD at hd
      simp only [List.mem_map, List.mem_range] at hd
      obtain ⟨i, hi, rfl⟩ := hd
      simp only [wipeD, dSeq, dNext, dIfS, dTest, dOp, dVar, dC, dRet, dRetN, dGet, dAnd, dOr, dNot, dAndV, dOrV, dNotV, dIf, dNil, dCons, dTup, dLst, dCB, dM0, dM1, dDrop, dAsg, dgName, dPar, dCal, dChain, dRaise, dRaise2, dFor, diSeq, items, diRange1, diRange2, dLc, dYes, dgTup, dgCons, dgNil, dSl, dPart, dNoPart, dNeg, dPenC, dPenA, dPenL, dPutA, dPutL, dFld, dgFld, dNew, dMet, dLstM, dFrz, dApp, dgIx, dAug, startD, List.map_cons, List.map_nil, List.length_cons, List.length_nil, List.replicate, Nat.reduceAdd, Nat.reduceSub, List.cons_append, List.nil_append, List.append_nil, List.set_cons_zero, List.set_cons_succ, List.getElem?_cons_zero, List.getElem?_cons_succ]
      exact ⟨trivial, _, _, rfl, hQ⟩
    have e4 : [] ++ (rangeD 0 (5 : Int).toNat).map (fun _ => D.bl true) = (List.replicate 5 true).map D.bl := rfl
    rw [e4]
    simp only [gAll, blsD_map]
    exact H _ _ _ _ _ t2 (by omega) (by omega)
  · simp only [List.mem_cons, List.not_mem_nil, or_false] at hz
    rcases hz with rfl | rfl | rfl | rfl | rfl | rfl | rfl | rfl | rfl | rfl | rfl | rfl <;> assumption
theorem law_loop {k : DEnds} {x0 x9 : Option D} {μ : Addr → Option MO} {m : Nat} (H : ∀ y3 y4 y5 y6 y7 y8 t, k.nx [x0, some .pen, some (.lst VALS), y3, y4, y5, y6, y7, y8, x9] ⟨t, μ⟩) : ∀ (ds : List D) (t0 : Nat) (x3 x4 x5 x6 x7 x8 : Option D), t0 + 2 * ds.length < 900000 → dForL (dgName 3) (l_law_4 K A cs) ds k [x0, some .pen, some (.lst VALS), x3, x4, x5, x6, x7, x8, x9] ⟨t0, μ⟩
  | [], _, _, _, _, _, _, _, _ => H _ _ _ _ _ _ _
  | d :: ds, t0, x3, x4, x5, x6, x7, x8, h => by
    simp only [List.length_cons] at h
    simp only [dForL, dgName, List.set_cons_zero, List.set_cons_succ]
    exact law_body (by omega) fun y4 y5 y6 y7 y8 t h1 h2 => law_loop (m := m) H ds t _ _ _ _ _ _ (by omega)
theorem p_law (cs : List Int) : t_law K A cs { nx := fun _ _ => False, rt := fun d _ => d = .bl true } (some .scr :: some .pen :: List.replicate 8 none) ⟨0, fun _ => none⟩ := by
  unfold t_law
  simp only [dSeq, dNext, dIfS, dTest, dOp, dVar, dC, dRet, dRetN, dGet, dAnd, dOr, dNot, dAndV, dOrV, dNotV, dIf, dNil, dCons, dTup, dLst, dCB, dM0, dM1, dDrop, dAsg, dgName, dPar, dCal, dChain, dRaise, dRaise2, dFor, diSeq, items, diRange1, diRange2, dLc, dYes, dgTup, dgCons, dgNil, dSl, dPart, dNoPart, dNeg, dPenC, dPenA, dPenL, dPutA, dPutL, dFld, dgFld, dNew, dMet, dLstM, dFrz, dApp, dgIx, dAug, startD, List.map_cons, List.map_nil, List.length_cons, List.length_nil, List.replicate, Nat.reduceAdd, Nat.reduceSub, List.cons_append, List.nil_append, List.append_nil, List.set_cons_zero, List.set_cons_succ, List.getElem?_cons_zero, List.getElem?_cons_succ, dDct, gPow, gI]
  refine ⟨by decide, by decide, ⟨by decide, by decide, by decide⟩, by decide, by decide, by decide, ?_⟩
  have e : ([D.non, .bl true, .int 0, .int (-3), .str [], .str [120, 32, 121], .tup [.int 1, .int 2], .lst [.str [120]], .dct, .int (10 ^ (9 : Int).toNat), .str [97], .tup [.tup [.int 0, .int 1], .int 2]] : List D) = VALS := rfl
  rw [e]
  unfold u_law_2
  simp only [dSeq, dNext, dIfS, dTest, dOp, dVar, dC, dRet, dRetN, dGet, dAnd, dOr, dNot, dAndV, dOrV, dNotV, dIf, dNil, dCons, dTup, dLst, dCB, dM0, dM1, dDrop, dAsg, dgName, dPar, dCal, dChain, dRaise, dRaise2, dFor, diSeq, items, diRange1, diRange2, dLc, dYes, dgTup, dgCons, dgNil, dSl, dPart, dNoPart, dNeg, dPenC, dPenA, dPenL, dPutA, dPutL, dFld, dgFld, dNew, dMet, dLstM, dFrz, dApp, dgIx, dAug, startD, List.map_cons, List.map_nil, List.length_cons, List.length_nil, List.replicate, Nat.reduceAdd, Nat.reduceSub, List.cons_append, List.nil_append, List.append_nil, List.set_cons_zero, List.set_cons_succ, List.getElem?_cons_zero, List.getElem?_cons_succ, gLenS, gMin, gAdd]
  refine ⟨?_, ?_, law_loop (m := 0) (fun y3 y4 y5 y6 y7 y8 t => ?_) _ 0 _ _ _ _ _ _ ?_⟩
  · split <;> omega
  · split <;> omega
  · unfold u_law_3
    simp only [dSeq, dNext, dIfS, dTest, dOp, dVar, dC, dRet, dRetN, dGet, dAnd, dOr, dNot, dAndV, dOrV, dNotV, dIf, dNil, dCons, dTup, dLst, dCB, dM0, dM1, dDrop, dAsg, dgName, dPar, dCal, dChain, dRaise, dRaise2, dFor, diSeq, items, diRange1, diRange2, dLc, dYes, dgTup, dgCons, dgNil, dSl, dPart, dNoPart, dNeg, dPenC, dPenA, dPenL, dPutA, dPutL, dFld, dgFld, dNew, dMet, dLstM, dFrz, dApp, dgIx, dAug, startD, List.map_cons, List.map_nil, List.length_cons, List.length_nil, List.replicate, Nat.reduceAdd, Nat.reduceSub, List.cons_append, List.nil_append, List.append_nil, List.set_cons_zero, List.set_cons_succ, List.getElem?_cons_zero, List.getElem?_cons_succ]
  · simp only [rangeD, List.length_map, List.length_range]
    split <;> omega
end
end K00

set_option Elab.async false
set_option linter.all false
set_option maxRecDepth 100000
set_option maxHeartbeats 8000000
set_option autoImplicit false
namespace K00
open PySem PySem.Spec PyProof.Rows L2 DL
section
variable {P : Program} {w : World} {K : PySem.W.Frag} {mg : Str → Option Value} {base : Heap} {A : Ad} {pn : Addr} {cs : List Int} {Tb : List (Addr × Str)}
theorem b__law_alone (T : Txt P K mg A)  (f : Addr) (cdv : Value) (A0 : Around) (outer : List Env) (s0 : Shared) (H : Hp) (E : XK) (hr : Room 1 (A0.deeper (envOfC "_law_alone" (defScope (top 25)) s0.heap.objs.size f cdv))) :
    PSs (XC P w K mg base N__law_alone "_law_alone" (top 25) f cdv A0 outer s0 H E) (defBody (top 25)) (liftS (MM K Tb pn cs) (fun cls d _ H' => E cls d H') (t__law_alone K A cs)) := by
  have tk : Takes (XC P w K mg base N__law_alone "_law_alone" (top 25) f cdv A0 outer s0 H E) (fun cls d _ H => E cls d H) := takes_of rfl rfl rfl rfl
  have hp : PassesOwn (model P w) (XC P w K mg base N__law_alone "_law_alone" (top 25) f cdv A0 outer s0 H E).A (XC P w K mg base N__law_alone "_law_alone" (top 25) f cdv A0 outer s0 H E).env (XC P w K mg base N__law_alone "_law_alone" (top 25) f cdv A0 outer s0 H E).xe := passes_of rfl
  exact (dss_one (ds_ret (dp_lst (da_cons (dp_tup (da_cons (dp_errF T.ef_value (dp_err1 T.e_BadValue hr (by rfl) (da_cons (dp_var (pv 0)) da_nil))) (da_cons (dp_errF T.ef_value (dp_err1k T.e_BadValue hr (by rfl) (dk_cons (dp_var (pv 0)) dk_nil))) da_nil))) (da_cons (dp_tup (da_cons (dp_errF T.ef_most (dp_err1 T.e_TooHigh hr (by rfl) (da_cons (dp_var (pv 0)) da_nil))) (da_cons (dp_errF T.ef_most (dp_err1k T.e_TooHigh hr (by rfl) (dk_cons (dp_var (pv 0)) dk_nil))) da_nil))) (da_cons (dp_tup (da_cons (dp_errF T.ef_most (dp_err1 T.e_TooMany hr (by rfl) (da_cons (dp_var (pv 0)) da_nil))) (da_cons (dp_errF T.ef_most (dp_err1k T.e_TooMany hr (by rfl) (dk_cons (dp_var (pv 0)) dk_nil))) da_nil))) (da_cons (dp_tup (da_cons (dp_errF T.ef_at (dp_err1 T.e_NotAFormula hr (by rfl) (da_cons (dp_var (pv 0)) da_nil))) (da_cons (dp_errF T.ef_at (dp_err1k T.e_NotAFormula hr (by rfl) (dk_cons (dp_var (pv 0)) dk_nil))) da_nil))) (da_cons (dp_tup (da_cons (dp_errF T.ef_at (dp_err1 T.e_NotANumber hr (by rfl) (da_cons (dp_var (pv 0)) da_nil))) (da_cons (dp_errF T.ef_at (dp_err1k T.e_NotANumber hr (by rfl) (dk_cons (dp_var (pv 0)) dk_nil))) da_nil))) (da_cons (dp_tup (da_cons (dp_errF T.ef_at (dp_err1 T.e_NotAFormat hr (by rfl) (da_cons (dp_var (pv 0)) da_nil))) (da_cons (dp_errF T.ef_at (dp_err1k T.e_NotAFormat hr (by rfl) (dk_cons (dp_var (pv 0)) dk_nil))) da_nil))) (da_cons (dp_tup (da_cons (dp_errF T.ef_name (dp_err1 T.e_NotAName hr (by rfl) (da_cons (dp_var (pv 0)) da_nil))) (da_cons (dp_errF T.ef_name (dp_err1k T.e_NotAName hr (by rfl) (dk_cons (dp_var (pv 0)) dk_nil))) da_nil))) (da_cons (dp_tup (da_cons (dp_errF T.ef_name (dp_err1 T.e_Unknown hr (by rfl) (da_cons (dp_var (pv 0)) da_nil))) (da_cons (dp_errF T.ef_name (dp_err1k T.e_Unknown hr (by rfl) (dk_cons (dp_var (pv 0)) dk_nil))) da_nil))) (da_cons (dp_tup (da_cons (dp_errF T.ef_name (dp_err1 T.e_Taken hr (by rfl) (da_cons (dp_var (pv 0)) da_nil))) (da_cons (dp_errF T.ef_name (dp_err1k T.e_Taken hr (by rfl) (dk_cons (dp_var (pv 0)) dk_nil))) da_nil))) (da_cons (dp_tup (da_cons (dp_errF T.ef_promise (dp_err1 T.e_BadPromise hr (by rfl) (da_cons (dp_var (pv 0)) da_nil))) (da_cons (dp_errF T.ef_promise (dp_err1k T.e_BadPromise hr (by rfl) (dk_cons (dp_var (pv 0)) dk_nil))) da_nil))) (da_cons (dp_tup (da_cons (dp_errF T.ef_promise (dp_err1 T.e_NotMade hr (by rfl) (da_cons (dp_var (pv 0)) da_nil))) (da_cons (dp_errF T.ef_promise (dp_err1k T.e_NotMade hr (by rfl) (dk_cons (dp_var (pv 0)) dk_nil))) da_nil))) (da_cons (dp_tup (da_cons (dp_errF T.ef_poly (dp_err1 T.e_Turns hr (by rfl) (da_cons (dp_var (pv 0)) da_nil))) (da_cons (dp_errF T.ef_poly (dp_err1k T.e_Turns hr (by rfl) (dk_cons (dp_var (pv 0)) dk_nil))) da_nil))) da_nil)))))))))))))))
theorem b__law_more (T : Txt P K mg A)  (f : Addr) (cdv : Value) (A0 : Around) (outer : List Env) (s0 : Shared) (H : Hp) (E : XK) (hr : Room 1 (A0.deeper (envOfC "_law_more" (defScope (top 26)) s0.heap.objs.size f cdv))) :
    PSs (XC P w K mg base N__law_more "_law_more" (top 26) f cdv A0 outer s0 H E) (defBody (top 26)) (liftS (MM K Tb pn cs) (fun cls d _ H' => E cls d H') (t__law_more K A cs)) := by
  have tk : Takes (XC P w K mg base N__law_more "_law_more" (top 26) f cdv A0 outer s0 H E) (fun cls d _ H => E cls d H) := takes_of rfl rfl rfl rfl
  have hp : PassesOwn (model P w) (XC P w K mg base N__law_more "_law_more" (top 26) f cdv A0 outer s0 H E).A (XC P w K mg base N__law_more "_law_more" (top 26) f cdv A0 outer s0 H E).env (XC P w K mg base N__law_more "_law_more" (top 26) f cdv A0 outer s0 H E).xe := passes_of rfl
  exact (dss_forg (dss_cons (ds_set (ps_set (i := 2) sc__law_more.nd rfl (Or.inl rfl) (dp_lstM da_nil)))
      (dss_cons (ds_expr (dp_app (pe_bm PySem.F.plainAttrs_list PySem.F.slot_list_append PySem.F.type_list_append mt_append (dp_var (pv 2)) (da_cons (dp_tup (da_cons (dp_errF T.ef_row (dp_err2 T.e_OffGrid hr (by rfl) (da_cons (dp_var (pv 0)) (da_cons (dp_var (pv 1)) da_nil)))) (da_cons (dp_var (pv 0)) da_nil))) da_nil))))
      (dss_cons (ds_expr (dp_app (pe_bm PySem.F.plainAttrs_list PySem.F.slot_list_append PySem.F.type_list_append mt_append (dp_var (pv 2)) (da_cons (dp_tup (da_cons (dp_errF T.ef_column (dp_err2m T.e_OffGrid hr (by rfl) (da_cons (dp_var (pv 0)) da_nil) (dk_cons (dp_var (pv 1)) dk_nil))) (da_cons (dp_var (pv 1)) da_nil))) da_nil))))
      (dss_cons (ds_expr (dp_app (pe_bm PySem.F.plainAttrs_list PySem.F.slot_list_append PySem.F.type_list_append mt_append (dp_var (pv 2)) (da_cons (dp_tup (da_cons (dp_errF T.ef_column (dp_err2k (sw := true) T.e_OffGrid hr (by rfl) (dk_cons (dp_var (pv 0)) (dk_cons (dp_var (pv 1)) dk_nil)))) (da_cons (dp_var (pv 0)) da_nil))) da_nil))))
      (dss_cons (ds_expr (dp_app (pe_bm PySem.F.plainAttrs_list PySem.F.slot_list_append PySem.F.type_list_append mt_append (dp_var (pv 2)) (da_cons (dp_tup (da_cons (dp_errF T.ef_row (dp_err2k (sw := true) T.e_OffGrid hr (by rfl) (dk_cons (dp_var (pv 0)) (dk_cons (dp_var (pv 1)) dk_nil)))) (da_cons (dp_var (pv 1)) da_nil))) da_nil))))
      (dss_cons (ds_expr (dp_app (pe_bm PySem.F.plainAttrs_list PySem.F.slot_list_append PySem.F.type_list_append mt_append (dp_var (pv 2)) (da_cons (dp_tup (da_cons (dp_errF T.ef_line (dp_err2 T.e_BadFile hr (by rfl) (da_cons (dp_var (pv 0)) (da_cons (dp_var (pv 1)) da_nil)))) (da_cons (dp_var (pv 0)) da_nil))) da_nil))))
      (dss_cons (ds_expr (dp_app (pe_bm PySem.F.plainAttrs_list PySem.F.slot_list_append PySem.F.type_list_append mt_append (dp_var (pv 2)) (da_cons (dp_tup (da_cons (dp_errF T.ef_at (dp_err2m T.e_BadFile hr (by rfl) (da_cons (dp_var (pv 0)) da_nil) (dk_cons (dp_var (pv 1)) dk_nil))) (da_cons (dp_var (pv 1)) da_nil))) da_nil))))
      (dss_cons (ds_expr (dp_app (pe_bm PySem.F.plainAttrs_list PySem.F.slot_list_append PySem.F.type_list_append mt_append (dp_var (pv 2)) (da_cons (dp_tup (da_cons (dp_errF T.ef_at (dp_err2k (sw := true) T.e_BadFile hr (by rfl) (dk_cons (dp_var (pv 0)) (dk_cons (dp_var (pv 1)) dk_nil)))) (da_cons (dp_var (pv 0)) da_nil))) da_nil))))
      (dss_cons (ds_expr (dp_app (pe_bm PySem.F.plainAttrs_list PySem.F.slot_list_append PySem.F.type_list_append mt_append (dp_var (pv 2)) (da_cons (dp_tup (da_cons (dp_errF T.ef_line (dp_err2k (sw := true) T.e_BadFile hr (by rfl) (dk_cons (dp_var (pv 0)) (dk_cons (dp_var (pv 1)) dk_nil)))) (da_cons (dp_var (pv 1)) da_nil))) da_nil))))
      (dss_cons (ds_expr (dp_app (pe_bm PySem.F.plainAttrs_list PySem.F.slot_list_append PySem.F.type_list_append mt_append (dp_var (pv 2)) (da_cons (dp_tup (da_cons (dp_errF T.ef_promise (dp_err2 T.e_Broken hr (by rfl) (da_cons (dp_var (pv 0)) (da_cons (dp_var (pv 1)) da_nil)))) (da_cons (dp_var (pv 0)) da_nil))) da_nil))))
      (dss_cons (ds_expr (dp_app (pe_bm PySem.F.plainAttrs_list PySem.F.slot_list_append PySem.F.type_list_append mt_append (dp_var (pv 2)) (da_cons (dp_tup (da_cons (dp_errF T.ef_where (dp_err2m T.e_Broken hr (by rfl) (da_cons (dp_var (pv 0)) da_nil) (dk_cons (dp_var (pv 1)) dk_nil))) (da_cons (dp_var (pv 1)) da_nil))) da_nil))))
      (dss_cons (ds_expr (dp_app (pe_bm PySem.F.plainAttrs_list PySem.F.slot_list_append PySem.F.type_list_append mt_append (dp_var (pv 2)) (da_cons (dp_tup (da_cons (dp_errF T.ef_where (dp_err2k (sw := true) T.e_Broken hr (by rfl) (dk_cons (dp_var (pv 0)) (dk_cons (dp_var (pv 1)) dk_nil)))) (da_cons (dp_var (pv 0)) da_nil))) da_nil))))
      (dss_cons (ds_expr (dp_app (pe_bm PySem.F.plainAttrs_list PySem.F.slot_list_append PySem.F.type_list_append mt_append (dp_var (pv 2)) (da_cons (dp_tup (da_cons (dp_errF T.ef_promise (dp_err2k (sw := true) T.e_Broken hr (by rfl) (dk_cons (dp_var (pv 0)) (dk_cons (dp_var (pv 1)) dk_nil)))) (da_cons (dp_var (pv 1)) da_nil))) da_nil))))
      (dss_one (ds_ret (dp_frz (dp_var (pv 2)))))))))))))))))))
theorem b__law_draw (T : Txt P K mg A)  (f : Addr) (cdv : Value) (A0 : Around) (outer : List Env) (s0 : Shared) (H : Hp) (E : XK) (hr : Room 1 (A0.deeper (envOfC "_law_draw" (defScope (top 23)) s0.heap.objs.size f cdv))) :
    PSs (XC P w K mg base N__law_draw "_law_draw" (top 23) f cdv A0 outer s0 H E) (defBody (top 23)) (liftS (MM K Tb pn cs) (fun cls d _ H' => E cls d H') (t__law_draw K A cs)) := by
  have tk : Takes (XC P w K mg base N__law_draw "_law_draw" (top 23) f cdv A0 outer s0 H E) (fun cls d _ H => E cls d H) := takes_of rfl rfl rfl rfl
  have hp : PassesOwn (model P w) (XC P w K mg base N__law_draw "_law_draw" (top 23) f cdv A0 outer s0 H E).A (XC P w K mg base N__law_draw "_law_draw" (top 23) f cdv A0 outer s0 H E).env (XC P w K mg base N__law_draw "_law_draw" (top 23) f cdv A0 outer s0 H E).xe := passes_of rfl
  exact (dss_cons (ds_if (dt_cmp op_geX dr_ord (dp_penl KO (hu_of hr) (dp_var (pv 0)) pe_str (fun _ _ => rfl)) (dp_var (pv 1)) (nomark _)) (dss_cons (ds_set (ps_set (i := 2) sc__law_draw.nd rfl (Or.inl rfl) (dp_mod (dp_bty (call_int1) (drc_int) (by rfl) T.n_int PyProof.Rows.boot_int (da_cons (dp_penl KO (hu_of hr) (dp_var (pv 0)) pe_str (fun _ _ => rfl)) da_nil)) (dp_var (pv 1)))))
      (dss_cons (ds_putl KO (hu_of hr) (dp_var (pv 0)) pe_str (dp_div (dp_penl KO (hu_of hr) (dp_var (pv 0)) pe_str (fun _ _ => rfl)) (dp_var (pv 1))))
      (dss_one (ds_ret (dp_var (pv 2)))))) dss_nil)
      (dss_cons (ds_set (ps_set (i := 3) sc__law_draw.nd rfl (Or.inl rfl) (dp_pena KO (hu_of hr) (dp_var (pv 0)) pe_str (fun _ _ => rfl))))
      (dss_cons (ds_puta KO (hu_of hr) (dp_var (pv 0)) pe_str (dp_add rfl (dp_var (pv 3)) dp_int))
      (dss_cons (ds_set (ps_set (i := 4) sc__law_draw.nd rfl (Or.inl rfl) (dp_add rfl (dp_mul dp_int (dp_var (pv 3))) dp_int)))
      (dss_cons (ds_if (dt_cmp (op_neX rfl (hu64 hr)) dr_ne (dp_penc (hu_of hr) (dp_var (pv 0)) pe_str (fun _ _ => rfl)) (dp_lst da_nil) (nomark _)) (dss_one (ds_set (ps_set (i := 4) sc__law_draw.nd rfl (Or.inl rfl) (dp_ix rfl (dp_penc (hu_of hr) (dp_var (pv 0)) pe_str (fun _ _ => rfl)) (dp_mod (dp_bty (call_int1) (drc_int) (by rfl) T.n_int PyProof.Rows.boot_int (da_cons (dp_var (pv 3)) da_nil)) (dp_bfn (call_len) (drc_len rfl) (by rfl) T.n_len PySem.boot_len (da_cons (dp_penc (hu_of hr) (dp_var (pv 0)) pe_str (fun _ _ => rfl)) da_nil))))))) dss_nil)
      (dss_cons (ds_if (dt_w (dw_and (dt_cmp op_ltX dr_ord (dp_var (pv 3)) (dp_bfn (call_len) (drc_len rfl) (by rfl) T.n_len PySem.boot_len (da_cons (dp_penc (hu_of hr) (dp_var (pv 0)) pe_str (fun _ _ => rfl)) da_nil)) (nomark _)) (dw_and1 (dt_cmp op_geX dr_ord (dp_var (pv 4)) (dp_pow dp_int dp_int) (nomark _))))) (dss_cons (ds_putl KO (hu_of hr) (dp_var (pv 0)) pe_str (dp_div (dp_sub (dp_var (pv 4)) (dp_pow dp_int dp_int)) (dp_var (pv 1))))
      (dss_one (ds_ret (dp_mod (dp_bty (call_int1) (drc_int) (by rfl) T.n_int PyProof.Rows.boot_int (da_cons (dp_sub (dp_var (pv 4)) (dp_pow dp_int dp_int)) da_nil)) (dp_var (pv 1)))))) dss_nil)
      (dss_cons (ds_set (ps_set (i := 5) sc__law_draw.nd rfl (Or.inl rfl) (dp_mul (dp_mod (dp_bty (call_int1) (drc_int) (by rfl) T.n_int PyProof.Rows.boot_int (da_cons (dp_var (pv 4)) da_nil)) dp_int) dp_int)))
      (dss_cons (ds_set (ps_set (i := 5) sc__law_draw.nd rfl (Or.inl rfl) (dp_mod (dp_bty (call_int1) (drc_int) (by rfl) T.n_int PyProof.Rows.boot_int (da_cons (dp_add rfl (dp_add rfl (dp_add rfl (dp_var (pv 5)) (dp_mul (dp_mul dp_int (dp_var (pv 3))) (dp_var (pv 3)))) (dp_mul dp_int (dp_var (pv 3)))) dp_int) da_nil)) dp_int)))
      (dss_cons (ds_set (ps_set (i := 5) sc__law_draw.nd rfl (Or.inl rfl) (dp_mod (dp_bty (call_int1) (drc_int) (by rfl) T.n_int PyProof.Rows.boot_int (da_cons (dp_mul (dp_var (pv 5)) (dp_add rfl (dp_var (pv 5)) dp_int)) da_nil)) dp_int)))
      (dss_one (ds_ret (dp_mod (dp_bty (call_int1) (drc_int) (by rfl) T.n_int PyProof.Rows.boot_int (da_cons (dp_div (dp_mod (dp_bty (call_int1) (drc_int) (by rfl) T.n_int PyProof.Rows.boot_int (da_cons (dp_add rfl (dp_mul (dp_var (pv 5)) (dp_var (pv 5))) (dp_mul dp_int (dp_var (pv 5)))) da_nil)) dp_int) dp_int) da_nil)) (dp_var (pv 1))))))))))))))
theorem b__law_pick (T : Txt P K mg A) (c_law_draw : CalD P w K mg base (MM K Tb pn cs) 2 "_law_draw" ["_law_pen_here", "_law_many"] (s__law_draw A)) (f : Addr) (cdv : Value) (A0 : Around) (outer : List Env) (s0 : Shared) (H : Hp) (E : XK) (hr : Room 2 (A0.deeper (envOfC "_law_pick" (defScope (top 24)) s0.heap.objs.size f cdv))) :
    PSs (XC P w K mg base N__law_pick "_law_pick" (top 24) f cdv A0 outer s0 H E) (defBody (top 24)) (liftS (MM K Tb pn cs) (fun cls d _ H' => E cls d H') (t__law_pick K A cs)) := by
  have tk : Takes (XC P w K mg base N__law_pick "_law_pick" (top 24) f cdv A0 outer s0 H E) (fun cls d _ H => E cls d H) := takes_of rfl rfl rfl rfl
  have hp : PassesOwn (model P w) (XC P w K mg base N__law_pick "_law_pick" (top 24) f cdv A0 outer s0 H E).A (XC P w K mg base N__law_pick "_law_pick" (top 24) f cdv A0 outer s0 H E).env (XC P w K mg base N__law_pick "_law_pick" (top 24) f cdv A0 outer s0 H E).xe := passes_of rfl
  exact (dss_one (ds_ret (dp_ix rfl (dp_var (pv 1)) (dp_cal (by exact c_law_draw) (by exact hr) (by decide) (by exact tk) (by rfl) (da_cons (dp_var (pv 0)) (da_cons (dp_bfn (call_len) (drc_len rfl) (by rfl) T.n_len PySem.boot_len (da_cons (dp_var (pv 1)) da_nil)) da_nil))))))
theorem b__law_kinds (T : Txt P K mg A)  (f : Addr) (cdv : Value) (A0 : Around) (outer : List Env) (s0 : Shared) (H : Hp) (E : XK) (hr : Room 1 (A0.deeper (envOfC "_law_kinds" (defScope (top 27)) s0.heap.objs.size f cdv))) :
    PSs (XC P w K mg base N__law_kinds "_law_kinds" (top 27) f cdv A0 outer s0 H E) (defBody (top 27)) (liftS (MM K Tb pn cs) (fun cls d _ H' => E cls d H') (t__law_kinds K A cs)) := by
  have tk : Takes (XC P w K mg base N__law_kinds "_law_kinds" (top 27) f cdv A0 outer s0 H E) (fun cls d _ H => E cls d H) := takes_of rfl rfl rfl rfl
  have hp : PassesOwn (model P w) (XC P w K mg base N__law_kinds "_law_kinds" (top 27) f cdv A0 outer s0 H E).A (XC P w K mg base N__law_kinds "_law_kinds" (top 27) f cdv A0 outer s0 H E).env (XC P w K mg base N__law_kinds "_law_kinds" (top 27) f cdv A0 outer s0 H E).xe := passes_of rfl
  exact (dss_cons (ds_set (ps_set (i := 1) sc__law_kinds.nd rfl (Or.inl rfl) (dp_lst da_nil)))
      (dss_cons (ds_set (ps_set (i := 1) sc__law_kinds.nd rfl (Or.inl rfl) (dp_add rfl (dp_var (pv 1)) (dp_lst (da_cons (dp_bfn call_isX (drc_isX rfl) (by rfl) T.n_isinstance PyProof.Rows.boot_isinstance (da_cons (dp_var (pv 0)) (da_cons (dp_cls (by rfl) (by exact T.c_BadValue)) da_nil))) (da_cons (dp_bfn call_isX (drc_isX rfl) (by rfl) T.n_isinstance PyProof.Rows.boot_isinstance (da_cons (dp_var (pv 0)) (da_cons (dp_cls (by rfl) (by exact T.c_NoDivisor)) da_nil))) (da_cons (dp_bfn call_isX (drc_isX rfl) (by rfl) T.n_isinstance PyProof.Rows.boot_isinstance (da_cons (dp_var (pv 0)) (da_cons (dp_cls (by rfl) (by exact T.c_NotTold)) da_nil))) da_nil)))))))
      (dss_cons (ds_set (ps_set (i := 1) sc__law_kinds.nd rfl (Or.inl rfl) (dp_add rfl (dp_var (pv 1)) (dp_lst (da_cons (dp_bfn call_isX (drc_isX rfl) (by rfl) T.n_isinstance PyProof.Rows.boot_isinstance (da_cons (dp_var (pv 0)) (da_cons (dp_cls (by rfl) (by exact T.c_TooHigh)) da_nil))) (da_cons (dp_bfn call_isX (drc_isX rfl) (by rfl) T.n_isinstance PyProof.Rows.boot_isinstance (da_cons (dp_var (pv 0)) (da_cons (dp_cls (by rfl) (by exact T.c_TooMany)) da_nil))) (da_cons (dp_bfn call_isX (drc_isX rfl) (by rfl) T.n_isinstance PyProof.Rows.boot_isinstance (da_cons (dp_var (pv 0)) (da_cons (dp_cls (by rfl) (by exact T.c_NotAFormula)) da_nil))) da_nil)))))))
      (dss_cons (ds_set (ps_set (i := 1) sc__law_kinds.nd rfl (Or.inl rfl) (dp_add rfl (dp_var (pv 1)) (dp_lst (da_cons (dp_bfn call_isX (drc_isX rfl) (by rfl) T.n_isinstance PyProof.Rows.boot_isinstance (da_cons (dp_var (pv 0)) (da_cons (dp_cls (by rfl) (by exact T.c_NotANumber)) da_nil))) (da_cons (dp_bfn call_isX (drc_isX rfl) (by rfl) T.n_isinstance PyProof.Rows.boot_isinstance (da_cons (dp_var (pv 0)) (da_cons (dp_cls (by rfl) (by exact T.c_NotAFormat)) da_nil))) (da_cons (dp_bfn call_isX (drc_isX rfl) (by rfl) T.n_isinstance PyProof.Rows.boot_isinstance (da_cons (dp_var (pv 0)) (da_cons (dp_cls (by rfl) (by exact T.c_NotAName)) da_nil))) da_nil)))))))
      (dss_cons (ds_set (ps_set (i := 1) sc__law_kinds.nd rfl (Or.inl rfl) (dp_add rfl (dp_var (pv 1)) (dp_lst (da_cons (dp_bfn call_isX (drc_isX rfl) (by rfl) T.n_isinstance PyProof.Rows.boot_isinstance (da_cons (dp_var (pv 0)) (da_cons (dp_cls (by rfl) (by exact T.c_OffGrid)) da_nil))) (da_cons (dp_bfn call_isX (drc_isX rfl) (by rfl) T.n_isinstance PyProof.Rows.boot_isinstance (da_cons (dp_var (pv 0)) (da_cons (dp_cls (by rfl) (by exact T.c_Unknown)) da_nil))) (da_cons (dp_bfn call_isX (drc_isX rfl) (by rfl) T.n_isinstance PyProof.Rows.boot_isinstance (da_cons (dp_var (pv 0)) (da_cons (dp_cls (by rfl) (by exact T.c_Taken)) da_nil))) da_nil)))))))
      (dss_cons (ds_set (ps_set (i := 1) sc__law_kinds.nd rfl (Or.inl rfl) (dp_add rfl (dp_var (pv 1)) (dp_lst (da_cons (dp_bfn call_isX (drc_isX rfl) (by rfl) T.n_isinstance PyProof.Rows.boot_isinstance (da_cons (dp_var (pv 0)) (da_cons (dp_cls (by rfl) (by exact T.c_BadFile)) da_nil))) (da_cons (dp_bfn call_isX (drc_isX rfl) (by rfl) T.n_isinstance PyProof.Rows.boot_isinstance (da_cons (dp_var (pv 0)) (da_cons (dp_cls (by rfl) (by exact T.c_BadPromise)) da_nil))) (da_cons (dp_bfn call_isX (drc_isX rfl) (by rfl) T.n_isinstance PyProof.Rows.boot_isinstance (da_cons (dp_var (pv 0)) (da_cons (dp_cls (by rfl) (by exact T.c_Broken)) da_nil))) da_nil)))))))
      (dss_cons (ds_set (ps_set (i := 1) sc__law_kinds.nd rfl (Or.inl rfl) (dp_add rfl (dp_var (pv 1)) (dp_lst (da_cons (dp_bfn call_isX (drc_isX rfl) (by rfl) T.n_isinstance PyProof.Rows.boot_isinstance (da_cons (dp_var (pv 0)) (da_cons (dp_cls (by rfl) (by exact T.c_NotMade)) da_nil))) (da_cons (dp_bfn call_isX (drc_isX rfl) (by rfl) T.n_isinstance PyProof.Rows.boot_isinstance (da_cons (dp_var (pv 0)) (da_cons (dp_cls (by rfl) (by exact T.c_NothingToUndo)) da_nil))) (da_cons (dp_bfn call_isX (drc_isX rfl) (by rfl) T.n_isinstance PyProof.Rows.boot_isinstance (da_cons (dp_var (pv 0)) (da_cons (dp_cls (by rfl) (by exact T.c_NothingToRedo)) da_nil))) da_nil)))))))
      (dss_cons (ds_set (ps_set (i := 1) sc__law_kinds.nd rfl (Or.inl rfl) (dp_add rfl (dp_var (pv 1)) (dp_lst (da_cons (dp_bfn call_isX (drc_isX rfl) (by rfl) T.n_isinstance PyProof.Rows.boot_isinstance (da_cons (dp_var (pv 0)) (da_cons (dp_cls (by rfl) (by exact T.c_Turns)) da_nil))) da_nil)))))
      (dss_one (ds_ret (dp_lc (pe_lc (own := [("_law_once", 2)]) rfl sc__law_kinds.nd (di_list rfl (dp_var (pv 1))) (blkOk_by (N := N__law_kinds) (sc := defScope (top 27)) (by decide +kernel)) (fun s H C cl fp => dg_of (pg_name (i := 2) sc__law_kinds.nd rfl (Or.inl rfl)) List.mem_cons_self) (fun s H C cl fp => by exact dts_nil) (fun s H C cl fp => by exact (dp_bty (call_int1) (drc_int) (by rfl) T.n_int PyProof.Rows.boot_int (da_cons (dp_var (pv 2)) da_nil)))))))))))))))
theorem b__law_apart (T : Txt P K mg A) (c_law_kinds : CalD P w K mg base (MM K Tb pn cs) 2 "_law_kinds" ["_law_error"] (s__law_kinds A)) (f : Addr) (cdv : Value) (A0 : Around) (outer : List Env) (s0 : Shared) (H : Hp) (E : XK) (hr : Room 2 (A0.deeper (envOfC "_law_apart" (defScope (top 28)) s0.heap.objs.size f cdv))) :
    PSs (XC P w K mg base N__law_apart "_law_apart" (top 28) f cdv A0 outer s0 H E) (defBody (top 28)) (liftS (MM K Tb pn cs) (fun cls d _ H' => E cls d H') (t__law_apart K A cs)) := by
  have tk : Takes (XC P w K mg base N__law_apart "_law_apart" (top 28) f cdv A0 outer s0 H E) (fun cls d _ H => E cls d H) := takes_of rfl rfl rfl rfl
  have hp : PassesOwn (model P w) (XC P w K mg base N__law_apart "_law_apart" (top 28) f cdv A0 outer s0 H E).A (XC P w K mg base N__law_apart "_law_apart" (top 28) f cdv A0 outer s0 H E).env (XC P w K mg base N__law_apart "_law_apart" (top 28) f cdv A0 outer s0 H E).xe := passes_of rfl
  exact (dss_cons (ds_set (ps_set (i := 2) sc__law_apart.nd rfl (Or.inr rfl) (dp_lst da_nil)))
      (dss_cons (ds_set (ps_set (i := 2) sc__law_apart.nd rfl (Or.inr rfl) (dp_add rfl (dp_var (pv 2)) (dp_lst (da_cons (dp_err1 T.e_BadValue hr (by rfl) (da_cons (dp_var (pv 0)) da_nil)) (da_cons (dp_err0 T.z_NoDivisor (by rfl)) (da_cons (dp_err0 T.z_NotTold (by rfl)) (da_cons (dp_err1 T.e_TooHigh hr (by rfl) (da_cons (dp_var (pv 0)) da_nil)) da_nil))))))))
      (dss_cons (ds_set (ps_set (i := 2) sc__law_apart.nd rfl (Or.inr rfl) (dp_add rfl (dp_var (pv 2)) (dp_lst (da_cons (dp_err1 T.e_TooMany hr (by rfl) (da_cons (dp_var (pv 0)) da_nil)) (da_cons (dp_err1 T.e_NotAFormula hr (by rfl) (da_cons (dp_var (pv 0)) da_nil)) (da_cons (dp_err1 T.e_NotANumber hr (by rfl) (da_cons (dp_var (pv 0)) da_nil)) (da_cons (dp_err1 T.e_NotAFormat hr (by rfl) (da_cons (dp_var (pv 0)) da_nil)) da_nil))))))))
      (dss_cons (ds_set (ps_set (i := 2) sc__law_apart.nd rfl (Or.inr rfl) (dp_add rfl (dp_var (pv 2)) (dp_lst (da_cons (dp_err1 T.e_NotAName hr (by rfl) (da_cons (dp_var (pv 0)) da_nil)) (da_cons (dp_err2 T.e_OffGrid hr (by rfl) (da_cons (dp_var (pv 0)) (da_cons (dp_var (pv 1)) da_nil))) (da_cons (dp_err1 T.e_Unknown hr (by rfl) (da_cons (dp_var (pv 0)) da_nil)) (da_cons (dp_err1 T.e_Taken hr (by rfl) (da_cons (dp_var (pv 0)) da_nil)) da_nil))))))))
      (dss_cons (ds_set (ps_set (i := 2) sc__law_apart.nd rfl (Or.inr rfl) (dp_add rfl (dp_var (pv 2)) (dp_lst (da_cons (dp_err2 T.e_BadFile hr (by rfl) (da_cons (dp_var (pv 0)) (da_cons (dp_var (pv 1)) da_nil))) (da_cons (dp_err1 T.e_BadPromise hr (by rfl) (da_cons (dp_var (pv 0)) da_nil)) (da_cons (dp_err2 T.e_Broken hr (by rfl) (da_cons (dp_var (pv 0)) (da_cons (dp_var (pv 1)) da_nil))) (da_cons (dp_err1 T.e_NotMade hr (by rfl) (da_cons (dp_var (pv 0)) da_nil)) da_nil))))))))
      (dss_cons (ds_set (ps_set (i := 2) sc__law_apart.nd rfl (Or.inr rfl) (dp_add rfl (dp_var (pv 2)) (dp_lst (da_cons (dp_err0 T.z_NothingToUndo (by rfl)) (da_cons (dp_err0 T.z_NothingToRedo (by rfl)) (da_cons (dp_err1 T.e_Turns hr (by rfl) (da_cons (dp_var (pv 0)) da_nil)) da_nil)))))))
      (dss_cons (ds_if (dt_not (dt_val (dp_bfn (cr_all rfl) (drc_all rfl) (by rfl) T.n_all PyProof.Rows.boot_all (da_cons (dp_lc (pe_lc (own := [("_law_error", 3)]) rfl sc__law_apart.nd (di_list rfl (dp_var (pv 2))) (blkOk_by (N := N__law_apart) (sc := defScope (top 28)) (by decide +kernel)) (fun s H C cl fp => dg_of (pg_name (i := 3) sc__law_apart.nd rfl (Or.inl rfl)) List.mem_cons_self) (fun s H C cl fp => by exact dts_nil) (fun s H C cl fp => by exact (dp_and (dp_bfn call_isX (drc_isX rfl) (by rfl) T.n_isinstance PyProof.Rows.boot_isinstance (da_cons (dp_var (pv 3)) (da_cons (dp_cls (by rfl) (by exact T.c_SheetError)) da_nil))) (dp_one (dp_bfn call_isX (drc_isX rfl) (by rfl) T.n_isinstance PyProof.Rows.boot_isinstance (da_cons (dp_var (pv 3)) (da_cons (dp_ty (by rfl) (by exact T.n_ValueError) boot_ValueError) da_nil)))))))) da_nil)))) (dss_one (ds_ret dp_bl)) dss_nil)
      (dss_cons (ds_set (ps_set (i := 4) sc__law_apart.nd rfl (Or.inr rfl) (dp_sub (dp_bfn (call_len) (drc_len rfl) (by rfl) T.n_len PySem.boot_len (da_cons (dp_var (pv 2)) da_nil)) dp_int)))
      (dss_one (ds_ret (dp_bfn (cr_all rfl) (drc_all rfl) (by rfl) T.n_all PyProof.Rows.boot_all (da_cons (dp_lc (pe_lc (own := [("_law_k", 5)]) rfl sc__law_apart.nd (di_range1 (pi_range1 (by rfl) T.n_range (da_cons (dp_bfn (call_len) (drc_len rfl) (by rfl) T.n_len PySem.boot_len (da_cons (dp_var (pv 2)) da_nil)) da_nil))) (blkOk_by (N := N__law_apart) (sc := defScope (top 28)) (by decide +kernel)) (fun s H C cl fp => dg_of (pg_name (i := 5) sc__law_apart.nd rfl (Or.inl rfl)) List.mem_cons_self) (fun s H C cl fp => by exact dts_nil) (fun s H C cl fp => by exact (dp_cmp (op_eqX rfl (hu64 hr)) dr_eq (dp_cal (by exact c_law_kinds) (by exact hr) (by decide) (by exact LamX.takes0) (by rfl) (da_cons (dp_ix rfl (dp_var (pv 2)) (dp_var (pv 5))) da_nil)) (dp_add rfl (dp_add rfl (dp_mulL (dp_lst (da_cons dp_int da_nil)) (dp_var (pv 5))) (dp_lst (da_cons dp_int da_nil))) (dp_mulL (dp_lst (da_cons dp_int da_nil)) (dp_sub (dp_var (pv 4)) (dp_var (pv 5))))) (nomark _))))) da_nil))))))))))))
theorem b__law_raise (T : Txt P K mg A)  (f : Addr) (cdv : Value) (A0 : Around) (outer : List Env) (s0 : Shared) (H : Hp) (E : XK) (hr : Room 1 (A0.deeper (envOfC "_law_raise" (defScope (top 29)) s0.heap.objs.size f cdv))) :
    PSs (XC P w K mg base N__law_raise "_law_raise" (top 29) f cdv A0 outer s0 H E) (defBody (top 29)) (liftS (MM K Tb pn cs) (fun cls d _ H' => E cls d H') (t__law_raise K A cs)) := by
  have tk : Takes (XC P w K mg base N__law_raise "_law_raise" (top 29) f cdv A0 outer s0 H E) (fun cls d _ H => E cls d H) := takes_of rfl rfl rfl rfl
  have hp : PassesOwn (model P w) (XC P w K mg base N__law_raise "_law_raise" (top 29) f cdv A0 outer s0 H E).A (XC P w K mg base N__law_raise "_law_raise" (top 29) f cdv A0 outer s0 H E).env (XC P w K mg base N__law_raise "_law_raise" (top 29) f cdv A0 outer s0 H E).xe := passes_of rfl
  exact (dss_cons (ds_if (dt_cmp (op_eqX rfl (hu64 hr)) dr_eq (dp_var (pv 0)) dp_int (nomark _)) (dss_one (ds_raise0 rfl T.z_NotTold tk (by rfl))) dss_nil)
      (dss_cons (ds_if (dt_cmp (op_eqX rfl (hu64 hr)) dr_eq (dp_var (pv 0)) dp_int (nomark _)) (dss_one (ds_raise (ps_raiseErr rfl T.e_TooMany hr tk (da_cons dp_int da_nil) (by rfl) (by decide)))) dss_nil)
      (dss_cons (ds_if (dt_cmp (op_eqX rfl (hu64 hr)) dr_eq (dp_var (pv 0)) dp_int (nomark _)) (dss_one (ds_raise2k (sw := true) rfl T.e_OffGrid hr tk (by rfl) (dk_cons (dp_var (pv 1)) (dk_cons dp_int dk_nil)))) dss_nil)
      (dss_cons (ds_if (dt_cmp (op_eqX rfl (hu64 hr)) dr_eq (dp_var (pv 0)) dp_int (nomark _)) (dss_one (ds_raise (ps_raiseErr rfl T.e_Unknown hr tk (da_cons (dp_var (pv 1)) da_nil) (by rfl) (by decide)))) dss_nil)
      (dss_one (ds_raise0 rfl T.z_NothingToUndo tk (by rfl)))))))
theorem b__law_caught (T : Txt P K mg A) (c_law_raise : CalD P w K mg base (MM K Tb pn cs) 2 "_law_raise" ["_law_which", "_law_mine"] (s__law_raise A)) (f : Addr) (cdv : Value) (A0 : Around) (outer : List Env) (s0 : Shared) (H : Hp) (E : XK) (hr : Room 2 (A0.deeper (envOfC "_law_caught" (defScope (top 30)) s0.heap.objs.size f cdv))) :
    PSs (XC P w K mg base N__law_caught "_law_caught" (top 30) f cdv A0 outer s0 H E) (defBody (top 30)) (liftS (MM K Tb pn cs) (fun cls d _ H' => E cls d H') (t__law_caught K A cs)) := by
  have tk : Takes (XC P w K mg base N__law_caught "_law_caught" (top 30) f cdv A0 outer s0 H E) (fun cls d _ H => E cls d H) := takes_of rfl rfl rfl rfl
  have hp : PassesOwn (model P w) (XC P w K mg base N__law_caught "_law_caught" (top 30) f cdv A0 outer s0 H E).A (XC P w K mg base N__law_caught "_law_caught" (top 30) f cdv A0 outer s0 H E).env (XC P w K mg base N__law_caught "_law_caught" (top 30) f cdv A0 outer s0 H E).xe := passes_of rfl
  exact (dss_cons (ds_try rfl rfl rfl sc__law_caught.nd tk (fun W2 pn xe tk2 hp2 => by exact (dss_one (ds_expr (dp_cal (by exact c_law_raise) (by exact hr) (by decide) (by exact tk2) (by rfl) (da_cons (dp_var (pv 0)) (da_cons (dp_var (pv 1)) da_nil)))))) (HdsAs.cons (i := 2) rfl rfl ⟨rfl, by decide, .inl T.c_SheetError⟩ (fun a oe cls d pn hz hf => by exact (dss_one (ds_ret dp_bl))) HdsAs.nil))
      (dss_one (ds_ret dp_bl)))
theorem b_law (T : Txt P K mg A) (c_law_alone : CalD P w K mg base (MM K Tb pn cs) 2 "_law_alone" ["_law_mine"] (s__law_alone A)) (c_law_apart : CalD P w K mg base (MM K Tb pn cs) 3 "_law_apart" ["_law_mine", "_law_yours"] (s__law_apart A)) (c_law_caught : CalD P w K mg base (MM K Tb pn cs) 3 "_law_caught" ["_law_which", "_law_mine"] (s__law_caught A)) (c_law_more : CalD P w K mg base (MM K Tb pn cs) 2 "_law_more" ["_law_mine", "_law_yours"] (s__law_more A)) (c_law_pick : CalD P w K mg base (MM K Tb pn cs) 3 "_law_pick" ["_law_pen_here", "_law_items"] (s__law_pick A)) (f : Addr) (cdv : Value) (A0 : Around) (outer : List Env) (s0 : Shared) (H : Hp) (E : XK) (hr : Room 3 (A0.deeper (envOfC "law" (defScope (top 31)) s0.heap.objs.size f cdv))) :
    PSs (XC P w K mg base N_law "law" (top 31) f cdv A0 outer s0 H E) ((defBody (top 31)).drop 1) (liftS (MM K Tb pn cs) (fun cls d _ H' => E cls d H') (t_law K A cs)) := by
  have tk : Takes (XC P w K mg base N_law "law" (top 31) f cdv A0 outer s0 H E) (fun cls d _ H => E cls d H) := takes_of rfl rfl rfl rfl
  have hp : PassesOwn (model P w) (XC P w K mg base N_law "law" (top 31) f cdv A0 outer s0 H E).A (XC P w K mg base N_law "law" (top 31) f cdv A0 outer s0 H E).env (XC P w K mg base N_law "law" (top 31) f cdv A0 outer s0 H E).xe := passes_of rfl
  exact (dss_cons (ds_set (ps_set (i := 2) sc_law.nd rfl (Or.inl rfl) (dp_lst (da_cons dp_non (da_cons dp_bl (da_cons dp_int (da_cons (dp_neg dp_int) (da_cons (dp_str []) (da_cons (dp_str [120, 32, 121]) (da_cons (dp_tup (da_cons dp_int (da_cons dp_int da_nil))) (da_cons (dp_lst (da_cons (dp_str [120]) da_nil)) (da_cons dp_dct (da_cons (dp_pow dp_int dp_int) (da_cons (dp_str [97]) (da_cons (dp_tup (da_cons (dp_tup (da_cons dp_int (da_cons dp_int da_nil))) (da_cons dp_int da_nil))) da_nil)))))))))))))))
      (dss_cons (ds_for (vs := [3]) hp rfl (di_range1 (pi_range1 (by rfl) T.n_range (da_cons (dp_add rfl dp_int (dp_bfn (call_min2 rfl) (drc_min) (by rfl) T.n_min PyProof.Rows.boot_min (da_cons dp_int (da_cons (dp_bfn call_len (drc_lenS rfl) (by rfl) T.n_len PySem.boot_len (da_cons (dp_var (pv 0)) da_nil)) da_nil)))) da_nil))) (dg_of (pg_name (i := 3) sc_law.nd rfl (Or.inl rfl)) List.mem_cons_self) (dss_cons (ds_asg (vs := [4, 5]) (ps_asg (dp_tup (da_cons (dp_cal (by exact c_law_pick) (by exact hr) (by decide) (by exact tk) (by rfl) (da_cons (dp_var (pv 1)) (da_cons (dp_var (pv 2)) da_nil))) (da_cons (dp_cal (by exact c_law_pick) (by exact hr) (by decide) (by exact tk) (by rfl) (da_cons (dp_var (pv 1)) (da_cons (dp_var (pv 2)) da_nil))) da_nil))) (dg_tup rfl rfl (dgs_cons (dg_of (pg_name (i := 4) sc_law.nd rfl (Or.inr rfl)) List.mem_cons_self) (dgs_cons (dg_of (pg_name (i := 5) sc_law.nd rfl (Or.inl rfl)) (List.mem_cons_of_mem _ List.mem_cons_self)) dgs_nil)))))
      (dss_cons (ds_for (vs := [6, 7]) hp rfl (di_list rfl (dp_cal (by exact c_law_alone) (by exact hr) (by decide) (by exact tk) (by rfl) (da_cons (dp_var (pv 4)) da_nil))) (dg_tup rfl rfl (dgs_cons (dg_of (pg_name (i := 6) sc_law.nd rfl (Or.inl rfl)) (by decide)) (dgs_cons (dg_of (pg_name (i := 7) sc_law.nd rfl (Or.inl rfl)) (by decide)) dgs_nil))) (dss_one (ds_if (dt_w (dw_or (dt_cmp (op_neDX rfl hr) dr_neX (dp_var (pv 6)) (dp_var (pv 4)) (nomark _)) (dw_or (dt_cmp (op_neDX rfl hr) dr_neX (dp_var (pv 7)) (dp_var (pv 4)) (nomark _)) (dw_or1 (dt_cmp (op_neDX rfl hr) dr_neX (dp_bfn (call_isi) (drc_isi rfl) (by rfl) T.n_isinstance PyProof.Rows.boot_isinstance (da_cons (dp_var (pv 6)) (da_cons (dp_ty (by rfl) (by exact T.n_bool) PyProof.Rows.boot_bool) da_nil))) (dp_bfn (call_isi) (drc_isi rfl) (by rfl) T.n_isinstance PyProof.Rows.boot_isinstance (da_cons (dp_var (pv 4)) (da_cons (dp_ty (by rfl) (by exact T.n_bool) PyProof.Rows.boot_bool) da_nil))) (nomark _)))))) (dss_one (ds_ret dp_bl)) dss_nil)))
      (dss_cons (ds_for (vs := [6, 8]) hp rfl (di_list rfl (dp_cal (by exact c_law_more) (by exact hr) (by decide) (by exact tk) (by rfl) (da_cons (dp_var (pv 4)) (da_cons (dp_var (pv 5)) da_nil)))) (dg_tup rfl rfl (dgs_cons (dg_of (pg_name (i := 6) sc_law.nd rfl (Or.inl rfl)) (by decide)) (dgs_cons (dg_of (pg_name (i := 8) sc_law.nd rfl (Or.inl rfl)) (by decide)) dgs_nil))) (dss_one (ds_if (dt_w (dw_or (dt_cmp (op_neDX rfl hr) dr_neX (dp_var (pv 6)) (dp_var (pv 8)) (nomark _)) (dw_or1 (dt_cmp (op_neDX rfl hr) dr_neX (dp_bfn (call_isi) (drc_isi rfl) (by rfl) T.n_isinstance PyProof.Rows.boot_isinstance (da_cons (dp_var (pv 6)) (da_cons (dp_ty (by rfl) (by exact T.n_bool) PyProof.Rows.boot_bool) da_nil))) (dp_bfn (call_isi) (drc_isi rfl) (by rfl) T.n_isinstance PyProof.Rows.boot_isinstance (da_cons (dp_var (pv 8)) (da_cons (dp_ty (by rfl) (by exact T.n_bool) PyProof.Rows.boot_bool) da_nil))) (nomark _))))) (dss_one (ds_ret dp_bl)) dss_nil)))
      (dss_one (ds_if (dt_w (dw_or (dt_not (dt_val (dp_cal (by exact c_law_apart) (by exact hr) (by decide) (by exact tk) (by rfl) (da_cons (dp_var (pv 4)) (da_cons (dp_var (pv 5)) da_nil))))) (dw_or1 (dt_not (dt_val (dp_bfn (cr_all rfl) (drc_all rfl) (by rfl) T.n_all PyProof.Rows.boot_all (da_cons (dp_lc (pe_lc (own := [("_law_which", 9)]) rfl sc_law.nd (di_range1 (pi_range1 (by rfl) T.n_range (da_cons dp_int da_nil))) (blkOk_by (N := N_law) (sc := defScope (top 31)) (by decide +kernel)) (fun s H C cl fp => dg_of (pg_name (i := 9) sc_law.nd rfl (Or.inl rfl)) List.mem_cons_self) (fun s H C cl fp => by exact dts_nil) (fun s H C cl fp => by exact (dp_cal (by exact c_law_caught) (by exact hr) (by decide) (by exact LamX.takes0) (by rfl) (da_cons (dp_var (pv 9)) (da_cons (dp_var (pv 4)) da_nil)))))) da_nil))))))) (dss_one (ds_ret dp_bl)) dss_nil))))))
      (dss_one (ds_ret dp_bl))))
end
end K00

set_option Elab.async false
set_option linter.all false
set_option maxRecDepth 100000
set_option maxHeartbeats 8000000
set_option autoImplicit false
namespace K00
open PySem PySem.Spec PyProof.Rows L2 DL
theorem vals_pick (is : List Nat) : ∀ {vs : List V} {us : List Value}, Vals vs us → Vals (is.filterMap (vs[·]?)) (is.filterMap (us[·]?)) := by
  intro vs us h
  induction is with
  | nil => exact .nil
  | cons i is ih =>
    cases e : vs[i]? with
    | none =>
      have e2 : us[i]? = none := by
        rw [List.getElem?_eq_none_iff] at e ⊢
        rw [← h.length]
        exact e
      rw [List.filterMap_cons_none (by exact e), List.filterMap_cons_none (by exact e2)]
      exact ih
    | some x =>
      obtain ⟨u, e2, r⟩ := h.get e
      rw [List.filterMap_cons_some (by exact e), List.filterMap_cons_some (by exact e2)]
      exact .cons r ih
theorem isl_pick {M : LK} {G : Hp} (is : List Nat) {vs : List V} {ds : List D} (h : DL.IsL M G vs ds) : DL.IsL M G (is.filterMap (vs[·]?)) (is.filterMap (ds[·]?)) := by
  have get : ∀ {ds : List D} {vs : List V} (i : Nat), DL.IsL M G vs ds → (vs[i]? = none ∧ ds[i]? = none) ∨ ∃ v d, vs[i]? = some v ∧ ds[i]? = some d ∧ Is M G v d := by
    intro ds
    induction ds with
    | nil =>
      intro vs i h
      cases vs with
      | nil => exact .inl ⟨rfl, rfl⟩
      | cons v vs => simp only [DL.IsL] at h
    | cons d ds ih =>
      intro vs i h
      cases vs with
      | nil => simp only [DL.IsL] at h
      | cons v vs =>
        simp only [DL.IsL] at h
        cases i with
        | zero => exact .inr ⟨v, d, rfl, rfl, h.1⟩
        | succ i => exact ih i h.2
  induction is with
  | nil => simp only [List.filterMap_nil, DL.IsL]
  | cons i is ih =>
    rcases get i h with ⟨e, e2⟩ | ⟨v, d, e, e2, r⟩
    · rw [List.filterMap_cons_none (by exact e), List.filterMap_cons_none (by exact e2)]
      exact ih
    · rw [List.filterMap_cons_some (by exact e), List.filterMap_cons_some (by exact e2)]
      simp only [DL.IsL]
      exact ⟨r, ih⟩
section
variable {P : Program} {w : World} {K : PySem.W.Frag} {mg : Str → Option Value} {base : Heap} {A : Ad} {pn : Addr} {cs : List Int} {Tb : List (Addr × Str)}
theorem cal__law_alone (T : Txt P K mg A) (D : DefT K mg "_law_alone" (top 25) ["_law_mine"])  : CalD P w K mg base (MM K Tb pn cs) 2 "_law_alone" ["_law_mine"] (s__law_alone A) :=
  CalD.of (M := (MM K Tb pn cs)) D sc__law_alone (t__law_alone K A cs) (fun f cdv A0 outer s0 H E hr => b__law_alone T  f cdv A0 outer s0 H E hr) (fun ds n q e hl h => p__law_alone ds n q e hl h)
theorem cal__law_more (T : Txt P K mg A) (D : DefT K mg "_law_more" (top 26) ["_law_mine", "_law_yours"])  : CalD P w K mg base (MM K Tb pn cs) 2 "_law_more" ["_law_mine", "_law_yours"] (s__law_more A) :=
  CalD.of (M := (MM K Tb pn cs)) D sc__law_more (t__law_more K A cs) (fun f cdv A0 outer s0 H E hr => b__law_more T  f cdv A0 outer s0 H E hr) (fun ds n q e hl h => p__law_more ds n q e hl h)
theorem cal__law_draw (T : Txt P K mg A) (D : DefT K mg "_law_draw" (top 23) ["_law_pen_here", "_law_many"])  : CalD P w K mg base (MM K Tb pn cs) 2 "_law_draw" ["_law_pen_here", "_law_many"] (s__law_draw A) :=
  CalD.of (M := (MM K Tb pn cs)) D sc__law_draw (t__law_draw K A cs) (fun f cdv A0 outer s0 H E hr => b__law_draw T  f cdv A0 outer s0 H E hr) (fun ds n q e hl h => p__law_draw ds n q e hl h)
theorem cal__law_pick (T : Txt P K mg A) (D : DefT K mg "_law_pick" (top 24) ["_law_pen_here", "_law_items"]) (c_law_draw : CalD P w K mg base (MM K Tb pn cs) 2 "_law_draw" ["_law_pen_here", "_law_many"] (s__law_draw A)) : CalD P w K mg base (MM K Tb pn cs) 3 "_law_pick" ["_law_pen_here", "_law_items"] (s__law_pick A) :=
  CalD.of (M := (MM K Tb pn cs)) D sc__law_pick (t__law_pick K A cs) (fun f cdv A0 outer s0 H E hr => b__law_pick T c_law_draw f cdv A0 outer s0 H E hr) (fun ds n q e hl h => p__law_pick ds n q e hl h)
theorem cal__law_kinds (T : Txt P K mg A) (D : DefT K mg "_law_kinds" (top 27) ["_law_error"])  : CalD P w K mg base (MM K Tb pn cs) 2 "_law_kinds" ["_law_error"] (s__law_kinds A) :=
  CalD.of (M := (MM K Tb pn cs)) D sc__law_kinds (t__law_kinds K A cs) (fun f cdv A0 outer s0 H E hr => b__law_kinds T  f cdv A0 outer s0 H E hr) (fun ds n q e hl h => p__law_kinds T ds n q e hl h)
theorem cal__law_apart (T : Txt P K mg A) (D : DefT K mg "_law_apart" (top 28) ["_law_mine", "_law_yours"]) (c_law_kinds : CalD P w K mg base (MM K Tb pn cs) 2 "_law_kinds" ["_law_error"] (s__law_kinds A)) : CalD P w K mg base (MM K Tb pn cs) 3 "_law_apart" ["_law_mine", "_law_yours"] (s__law_apart A) :=
  CalD.of (M := (MM K Tb pn cs)) D sc__law_apart (t__law_apart K A cs) (fun f cdv A0 outer s0 H E hr => b__law_apart T c_law_kinds f cdv A0 outer s0 H E hr) (fun ds n q e hl h => p__law_apart T ds n q e hl h)
theorem cal__law_raise (T : Txt P K mg A) (D : DefT K mg "_law_raise" (top 29) ["_law_which", "_law_mine"])  : CalD P w K mg base (MM K Tb pn cs) 2 "_law_raise" ["_law_which", "_law_mine"] (s__law_raise A) :=
  CalD.of (M := (MM K Tb pn cs)) D sc__law_raise (t__law_raise K A cs) (fun f cdv A0 outer s0 H E hr => b__law_raise T  f cdv A0 outer s0 H E hr) (fun ds n q e hl h => p__law_raise ds n q e hl h)
theorem cal__law_caught (T : Txt P K mg A) (D : DefT K mg "_law_caught" (top 30) ["_law_which", "_law_mine"]) (c_law_raise : CalD P w K mg base (MM K Tb pn cs) 2 "_law_raise" ["_law_which", "_law_mine"] (s__law_raise A)) : CalD P w K mg base (MM K Tb pn cs) 3 "_law_caught" ["_law_which", "_law_mine"] (s__law_caught A) :=
  CalD.of (M := (MM K Tb pn cs)) D sc__law_caught (t__law_caught K A cs) (fun f cdv A0 outer s0 H E hr => b__law_caught T c_law_raise f cdv A0 outer s0 H E hr) (fun ds n q e hl h => p__law_caught T ds n q e hl h)
theorem sc__law_pen : FnScope ["_law_script"] ["_law_script"] (defScope (top 22)) := ⟨rfl, rfl, rfl, by decide +kernel, rfl, by decide +kernel, by decide +kernel⟩
theorem ok_pen {f : Addr} {fd : FuncData} (F : Fun K "_law_pen" "_law_pen" (top 22) f fd) (hl : mg "list" = none) : FnOk P w K mg base (L2.CX P w) 2 f fd ["_law_script"] (spPen K "stop" "rest") := by
  refine F.okX sc__law_pen (fun vs H Q E h => ?_) (fun cdv A outer s H vs Q E hr h => ⟨tPen K "stop" "rest", ?_, pen_pure (by decide) (by decide) (by decide) vs H Q E h⟩)
  · obtain ⟨a, ns, rfl, _⟩ := h
    rfl
  · exact pss_one (ps_ret (pe_disp (pps_cons pe_str (pe_callTy call_list_of (by rfl) hl PyProof.Rows.boot_list (pa_cons (pe_slice sl_list (pv 0) po_none (po_some pe_int)) pa_nil)) (pps_cons pe_str pe_int (pps_cons pe_str pe_int pps_nil))) rfl rfl (by decide) (by decide)))
theorem ok_law {f fp : Addr} {fd fdp : FuncData} (T : Txt P K mg A) (F : Fun K "law" "law" (top 31) f fd) (Fp : Fun K "_law_pen" "_law_pen" (top 22) fp fdp) (bp : Binds K fdp ["_law_script"] []) (gp : mg "_law_pen" = some (.ref fp)) (kp : PySem.W.keepIn K (.ref fp) = true) (hl : mg "list" = none) (c_law_alone : ∀ pn cs, CalD P w K mg base (MM K Tb pn cs) 2 "_law_alone" ["_law_mine"] (s__law_alone A)) (c_law_apart : ∀ pn cs, CalD P w K mg base (MM K Tb pn cs) 3 "_law_apart" ["_law_mine", "_law_yours"] (s__law_apart A)) (c_law_caught : ∀ pn cs, CalD P w K mg base (MM K Tb pn cs) 3 "_law_caught" ["_law_which", "_law_mine"] (s__law_caught A)) (c_law_more : ∀ pn cs, CalD P w K mg base (MM K Tb pn cs) 2 "_law_more" ["_law_mine", "_law_yours"] (s__law_more A)) (c_law_pick : ∀ pn cs, CalD P w K mg base (MM K Tb pn cs) 3 "_law_pick" ["_law_pen_here", "_law_items"] (s__law_pick A)) :
    FnOk P w K mg base (L2.CX P w) 4 f fd ["_law_script"] (spLaw K Tb) := by
  refine F.okX sc_law (fun vs H Q E h => ?_) (fun cdv A0 outer s0 H vs Q E hr h => ⟨_, ?_, law_pure (K := K) (T := Tb) (ka := "stop") (kl := "rest") (W := fun cls d _ H => E cls d H) (WS := WE fun cls d _ H => E cls d H) (N := N_law) (m := 8) (t := fun cs => t_law K A cs) rfl (fun cs _ => p_law cs) vs H Q E h⟩)
  · obtain ⟨a, ns, rfl, _⟩ := h
    rfl
  · have tk : Takes (XC P w K mg base N_law "law" (top 31) f cdv A0 outer s0 H E) (fun cls d _ H => E cls d H) := takes_of rfl rfl rfl rfl
    have h2 : PSs (XC P w K mg base N_law "law" (top 31) f cdv A0 outer s0 H E) ((defBody (top 31)).drop 1) (tLaw K Tb "stop" "rest" (fun cls d _ H => E cls d H) fun cs => t_law K A cs) := pss_law fun pn cs => b_law T (c_law_alone pn cs) (c_law_apart pn cs) (c_law_caught pn cs) (c_law_more pn cs) (c_law_pick pn cs) f cdv A0 outer s0 H E hr
    exact pss_cons (ps_set (i := 1) sc_law.nd rfl (Or.inl rfl) (pe_callSD (dvs := []) (ds := []) (ok_pen Fp hl) (hr.mono (by decide)) rfl gp kp bp .nil (fun σ => passAt tk σ) (pa_cons (pv 0) pa_nil))) h2
end
theorem fin (l : PySem.W.OpenLaw) {w : World} {K : PySem.W.Frag} {h : Heap} {mg : Str → Option Value} {fa : Addr} (X : K.In h) (G : h.Ns mainGlobals mg) (hfa : mg "law" = some (.ref fa))
    {C_BadFile : Addr} {C_BadPromise : Addr} {C_BadValue : Addr} {C_Broken : Addr} {C_NoDivisor : Addr} {C_NotAFormat : Addr} {C_NotAFormula : Addr} {C_NotAName : Addr} {C_NotANumber : Addr} {C_NotMade : Addr} {C_NotTold : Addr} {C_NothingToRedo : Addr} {C_NothingToUndo : Addr} {C_OffGrid : Addr} {C_SheetError : Addr} {C_Taken : Addr} {C_TooHigh : Addr} {C_TooMany : Addr} {C_Turns : Addr} {C_Unknown : Addr} {nm_BadFile q_BadFile : Str} {N_BadFile : Addr} {bs_BadFile bm_BadFile sub_BadFile : List Value} {sn_BadFile : List Str} {ab_BadFile : Bool} {col_BadFile : Option Bool} {dd_BadFile : Option Addr} {m0_BadFile m1_BadFile m2_BadFile m3_BadFile m5_BadFile : Option Value} {fI_BadFile : Addr} {oc_BadFile dc_BadFile pm_BadFile ct_BadFile : Value} {od_BadFile an_BadFile : Option Addr} {cd_BadFile cc_BadFile : Addr} {sl_BadFile : Array (Option Value)} {ccl_BadFile : Value} {cdd_BadFile : Option Addr} {vs_BadFile : Array Value} {ccs_BadFile : Array (Option Value)} {fl_BadFile : Str} {tf_BadFile : Tok} {cl_BadFile : Value} {cld_BadFile : Option Addr} {csl_BadFile : Array (Option Value)} {nm_BadPromise q_BadPromise : Str} {N_BadPromise : Addr} {bs_BadPromise bm_BadPromise sub_BadPromise : List Value} {sn_BadPromise : List Str} {ab_BadPromise : Bool} {col_BadPromise : Option Bool} {dd_BadPromise : Option Addr} {m0_BadPromise m1_BadPromise m2_BadPromise m3_BadPromise m5_BadPromise : Option Value} {fI_BadPromise : Addr} {oc_BadPromise dc_BadPromise pm_BadPromise ct_BadPromise : Value} {od_BadPromise an_BadPromise : Option Addr} {cd_BadPromise cc_BadPromise : Addr} {sl_BadPromise : Array (Option Value)} {ccl_BadPromise : Value} {cdd_BadPromise : Option Addr} {vs_BadPromise : Array Value} {ccs_BadPromise : Array (Option Value)} {fl_BadPromise : Str} {tf_BadPromise : Tok} {cl_BadPromise : Value} {cld_BadPromise : Option Addr} {csl_BadPromise : Array (Option Value)} {nm_BadValue q_BadValue : Str} {N_BadValue : Addr} {bs_BadValue bm_BadValue sub_BadValue : List Value} {sn_BadValue : List Str} {ab_BadValue : Bool} {col_BadValue : Option Bool} {dd_BadValue : Option Addr} {m0_BadValue m1_BadValue m2_BadValue m3_BadValue m5_BadValue : Option Value} {fI_BadValue : Addr} {oc_BadValue dc_BadValue pm_BadValue ct_BadValue : Value} {od_BadValue an_BadValue : Option Addr} {cd_BadValue cc_BadValue : Addr} {sl_BadValue : Array (Option Value)} {ccl_BadValue : Value} {cdd_BadValue : Option Addr} {vs_BadValue : Array Value} {ccs_BadValue : Array (Option Value)} {fl_BadValue : Str} {tf_BadValue : Tok} {cl_BadValue : Value} {cld_BadValue : Option Addr} {csl_BadValue : Array (Option Value)} {nm_Broken q_Broken : Str} {N_Broken : Addr} {bs_Broken bm_Broken sub_Broken : List Value} {sn_Broken : List Str} {ab_Broken : Bool} {col_Broken : Option Bool} {dd_Broken : Option Addr} {m0_Broken m1_Broken m2_Broken m3_Broken m5_Broken : Option Value} {fI_Broken : Addr} {oc_Broken dc_Broken pm_Broken ct_Broken : Value} {od_Broken an_Broken : Option Addr} {cd_Broken cc_Broken : Addr} {sl_Broken : Array (Option Value)} {ccl_Broken : Value} {cdd_Broken : Option Addr} {vs_Broken : Array Value} {ccs_Broken : Array (Option Value)} {fl_Broken : Str} {tf_Broken : Tok} {cl_Broken : Value} {cld_Broken : Option Addr} {csl_Broken : Array (Option Value)} {nm_NotAFormat q_NotAFormat : Str} {N_NotAFormat : Addr} {bs_NotAFormat bm_NotAFormat sub_NotAFormat : List Value} {sn_NotAFormat : List Str} {ab_NotAFormat : Bool} {col_NotAFormat : Option Bool} {dd_NotAFormat : Option Addr} {m0_NotAFormat m1_NotAFormat m2_NotAFormat m3_NotAFormat m5_NotAFormat : Option Value} {fI_NotAFormat : Addr} {oc_NotAFormat dc_NotAFormat pm_NotAFormat ct_NotAFormat : Value} {od_NotAFormat an_NotAFormat : Option Addr} {cd_NotAFormat cc_NotAFormat : Addr} {sl_NotAFormat : Array (Option Value)} {ccl_NotAFormat : Value} {cdd_NotAFormat : Option Addr} {vs_NotAFormat : Array Value} {ccs_NotAFormat : Array (Option Value)} {fl_NotAFormat : Str} {tf_NotAFormat : Tok} {cl_NotAFormat : Value} {cld_NotAFormat : Option Addr} {csl_NotAFormat : Array (Option Value)} {nm_NotAFormula q_NotAFormula : Str} {N_NotAFormula : Addr} {bs_NotAFormula bm_NotAFormula sub_NotAFormula : List Value} {sn_NotAFormula : List Str} {ab_NotAFormula : Bool} {col_NotAFormula : Option Bool} {dd_NotAFormula : Option Addr} {m0_NotAFormula m1_NotAFormula m2_NotAFormula m3_NotAFormula m5_NotAFormula : Option Value} {fI_NotAFormula : Addr} {oc_NotAFormula dc_NotAFormula pm_NotAFormula ct_NotAFormula : Value} {od_NotAFormula an_NotAFormula : Option Addr} {cd_NotAFormula cc_NotAFormula : Addr} {sl_NotAFormula : Array (Option Value)} {ccl_NotAFormula : Value} {cdd_NotAFormula : Option Addr} {vs_NotAFormula : Array Value} {ccs_NotAFormula : Array (Option Value)} {fl_NotAFormula : Str} {tf_NotAFormula : Tok} {cl_NotAFormula : Value} {cld_NotAFormula : Option Addr} {csl_NotAFormula : Array (Option Value)} {nm_NotAName q_NotAName : Str} {N_NotAName : Addr} {bs_NotAName bm_NotAName sub_NotAName : List Value} {sn_NotAName : List Str} {ab_NotAName : Bool} {col_NotAName : Option Bool} {dd_NotAName : Option Addr} {m0_NotAName m1_NotAName m2_NotAName m3_NotAName m5_NotAName : Option Value} {fI_NotAName : Addr} {oc_NotAName dc_NotAName pm_NotAName ct_NotAName : Value} {od_NotAName an_NotAName : Option Addr} {cd_NotAName cc_NotAName : Addr} {sl_NotAName : Array (Option Value)} {ccl_NotAName : Value} {cdd_NotAName : Option Addr} {vs_NotAName : Array Value} {ccs_NotAName : Array (Option Value)} {fl_NotAName : Str} {tf_NotAName : Tok} {cl_NotAName : Value} {cld_NotAName : Option Addr} {csl_NotAName : Array (Option Value)} {nm_NotANumber q_NotANumber : Str} {N_NotANumber : Addr} {bs_NotANumber bm_NotANumber sub_NotANumber : List Value} {sn_NotANumber : List Str} {ab_NotANumber : Bool} {col_NotANumber : Option Bool} {dd_NotANumber : Option Addr} {m0_NotANumber m1_NotANumber m2_NotANumber m3_NotANumber m5_NotANumber : Option Value} {fI_NotANumber : Addr} {oc_NotANumber dc_NotANumber pm_NotANumber ct_NotANumber : Value} {od_NotANumber an_NotANumber : Option Addr} {cd_NotANumber cc_NotANumber : Addr} {sl_NotANumber : Array (Option Value)} {ccl_NotANumber : Value} {cdd_NotANumber : Option Addr} {vs_NotANumber : Array Value} {ccs_NotANumber : Array (Option Value)} {fl_NotANumber : Str} {tf_NotANumber : Tok} {cl_NotANumber : Value} {cld_NotANumber : Option Addr} {csl_NotANumber : Array (Option Value)} {nm_NotMade q_NotMade : Str} {N_NotMade : Addr} {bs_NotMade bm_NotMade sub_NotMade : List Value} {sn_NotMade : List Str} {ab_NotMade : Bool} {col_NotMade : Option Bool} {dd_NotMade : Option Addr} {m0_NotMade m1_NotMade m2_NotMade m3_NotMade m5_NotMade : Option Value} {fI_NotMade : Addr} {oc_NotMade dc_NotMade pm_NotMade ct_NotMade : Value} {od_NotMade an_NotMade : Option Addr} {cd_NotMade cc_NotMade : Addr} {sl_NotMade : Array (Option Value)} {ccl_NotMade : Value} {cdd_NotMade : Option Addr} {vs_NotMade : Array Value} {ccs_NotMade : Array (Option Value)} {fl_NotMade : Str} {tf_NotMade : Tok} {cl_NotMade : Value} {cld_NotMade : Option Addr} {csl_NotMade : Array (Option Value)} {nm_OffGrid q_OffGrid : Str} {N_OffGrid : Addr} {bs_OffGrid bm_OffGrid sub_OffGrid : List Value} {sn_OffGrid : List Str} {ab_OffGrid : Bool} {col_OffGrid : Option Bool} {dd_OffGrid : Option Addr} {m0_OffGrid m1_OffGrid m2_OffGrid m3_OffGrid m5_OffGrid : Option Value} {fI_OffGrid : Addr} {oc_OffGrid dc_OffGrid pm_OffGrid ct_OffGrid : Value} {od_OffGrid an_OffGrid : Option Addr} {cd_OffGrid cc_OffGrid : Addr} {sl_OffGrid : Array (Option Value)} {ccl_OffGrid : Value} {cdd_OffGrid : Option Addr} {vs_OffGrid : Array Value} {ccs_OffGrid : Array (Option Value)} {fl_OffGrid : Str} {tf_OffGrid : Tok} {cl_OffGrid : Value} {cld_OffGrid : Option Addr} {csl_OffGrid : Array (Option Value)} {nm_Taken q_Taken : Str} {N_Taken : Addr} {bs_Taken bm_Taken sub_Taken : List Value} {sn_Taken : List Str} {ab_Taken : Bool} {col_Taken : Option Bool} {dd_Taken : Option Addr} {m0_Taken m1_Taken m2_Taken m3_Taken m5_Taken : Option Value} {fI_Taken : Addr} {oc_Taken dc_Taken pm_Taken ct_Taken : Value} {od_Taken an_Taken : Option Addr} {cd_Taken cc_Taken : Addr} {sl_Taken : Array (Option Value)} {ccl_Taken : Value} {cdd_Taken : Option Addr} {vs_Taken : Array Value} {ccs_Taken : Array (Option Value)} {fl_Taken : Str} {tf_Taken : Tok} {cl_Taken : Value} {cld_Taken : Option Addr} {csl_Taken : Array (Option Value)} {nm_TooHigh q_TooHigh : Str} {N_TooHigh : Addr} {bs_TooHigh bm_TooHigh sub_TooHigh : List Value} {sn_TooHigh : List Str} {ab_TooHigh : Bool} {col_TooHigh : Option Bool} {dd_TooHigh : Option Addr} {m0_TooHigh m1_TooHigh m2_TooHigh m3_TooHigh m5_TooHigh : Option Value} {fI_TooHigh : Addr} {oc_TooHigh dc_TooHigh pm_TooHigh ct_TooHigh : Value} {od_TooHigh an_TooHigh : Option Addr} {cd_TooHigh cc_TooHigh : Addr} {sl_TooHigh : Array (Option Value)} {ccl_TooHigh : Value} {cdd_TooHigh : Option Addr} {vs_TooHigh : Array Value} {ccs_TooHigh : Array (Option Value)} {fl_TooHigh : Str} {tf_TooHigh : Tok} {cl_TooHigh : Value} {cld_TooHigh : Option Addr} {csl_TooHigh : Array (Option Value)} {nm_TooMany q_TooMany : Str} {N_TooMany : Addr} {bs_TooMany bm_TooMany sub_TooMany : List Value} {sn_TooMany : List Str} {ab_TooMany : Bool} {col_TooMany : Option Bool} {dd_TooMany : Option Addr} {m0_TooMany m1_TooMany m2_TooMany m3_TooMany m5_TooMany : Option Value} {fI_TooMany : Addr} {oc_TooMany dc_TooMany pm_TooMany ct_TooMany : Value} {od_TooMany an_TooMany : Option Addr} {cd_TooMany cc_TooMany : Addr} {sl_TooMany : Array (Option Value)} {ccl_TooMany : Value} {cdd_TooMany : Option Addr} {vs_TooMany : Array Value} {ccs_TooMany : Array (Option Value)} {fl_TooMany : Str} {tf_TooMany : Tok} {cl_TooMany : Value} {cld_TooMany : Option Addr} {csl_TooMany : Array (Option Value)} {nm_Turns q_Turns : Str} {N_Turns : Addr} {bs_Turns bm_Turns sub_Turns : List Value} {sn_Turns : List Str} {ab_Turns : Bool} {col_Turns : Option Bool} {dd_Turns : Option Addr} {m0_Turns m1_Turns m2_Turns m3_Turns m5_Turns : Option Value} {fI_Turns : Addr} {oc_Turns dc_Turns pm_Turns ct_Turns : Value} {od_Turns an_Turns : Option Addr} {cd_Turns cc_Turns : Addr} {sl_Turns : Array (Option Value)} {ccl_Turns : Value} {cdd_Turns : Option Addr} {vs_Turns : Array Value} {ccs_Turns : Array (Option Value)} {fl_Turns : Str} {tf_Turns : Tok} {cl_Turns : Value} {cld_Turns : Option Addr} {csl_Turns : Array (Option Value)} {nm_Unknown q_Unknown : Str} {N_Unknown : Addr} {bs_Unknown bm_Unknown sub_Unknown : List Value} {sn_Unknown : List Str} {ab_Unknown : Bool} {col_Unknown : Option Bool} {dd_Unknown : Option Addr} {m0_Unknown m1_Unknown m2_Unknown m3_Unknown m5_Unknown : Option Value} {fI_Unknown : Addr} {oc_Unknown dc_Unknown pm_Unknown ct_Unknown : Value} {od_Unknown an_Unknown : Option Addr} {cd_Unknown cc_Unknown : Addr} {sl_Unknown : Array (Option Value)} {ccl_Unknown : Value} {cdd_Unknown : Option Addr} {vs_Unknown : Array Value} {ccs_Unknown : Array (Option Value)} {fl_Unknown : Str} {tf_Unknown : Tok} {cl_Unknown : Value} {cld_Unknown : Option Addr} {csl_Unknown : Array (Option Value)} {nm_NoDivisor q_NoDivisor : Str} {N_NoDivisor : Addr} {bs_NoDivisor bm_NoDivisor sub_NoDivisor : List Value} {sn_NoDivisor : List Str} {ab_NoDivisor : Bool} {col_NoDivisor : Option Bool} {dd_NoDivisor : Option Addr} {m0_NoDivisor m1_NoDivisor m2_NoDivisor m3_NoDivisor m5_NoDivisor : Option Value} {nm_NotTold q_NotTold : Str} {N_NotTold : Addr} {bs_NotTold bm_NotTold sub_NotTold : List Value} {sn_NotTold : List Str} {ab_NotTold : Bool} {col_NotTold : Option Bool} {dd_NotTold : Option Addr} {m0_NotTold m1_NotTold m2_NotTold m3_NotTold m5_NotTold : Option Value} {nm_NothingToRedo q_NothingToRedo : Str} {N_NothingToRedo : Addr} {bs_NothingToRedo bm_NothingToRedo sub_NothingToRedo : List Value} {sn_NothingToRedo : List Str} {ab_NothingToRedo : Bool} {col_NothingToRedo : Option Bool} {dd_NothingToRedo : Option Addr} {m0_NothingToRedo m1_NothingToRedo m2_NothingToRedo m3_NothingToRedo m5_NothingToRedo : Option Value} {nm_NothingToUndo q_NothingToUndo : Str} {N_NothingToUndo : Addr} {bs_NothingToUndo bm_NothingToUndo sub_NothingToUndo : List Value} {sn_NothingToUndo : List Str} {ab_NothingToUndo : Bool} {col_NothingToUndo : Option Bool} {dd_NothingToUndo : Option Addr} {m0_NothingToUndo m1_NothingToUndo m2_NothingToUndo m3_NothingToUndo m5_NothingToUndo : Option Value} {f__law_alone : Addr} {oc_law_alone kV_law_alone dc_law_alone pm_law_alone cv_law_alone ct_law_alone : Value} {od_law_alone an_law_alone : Option Addr} {sl_law_alone : Array (Option Value)} {f__law_more : Addr} {oc_law_more kV_law_more dc_law_more pm_law_more cv_law_more ct_law_more : Value} {od_law_more an_law_more : Option Addr} {sl_law_more : Array (Option Value)} {f__law_draw : Addr} {oc_law_draw kV_law_draw dc_law_draw pm_law_draw cv_law_draw ct_law_draw : Value} {od_law_draw an_law_draw : Option Addr} {sl_law_draw : Array (Option Value)} {f__law_pick : Addr} {oc_law_pick kV_law_pick dc_law_pick pm_law_pick cv_law_pick ct_law_pick : Value} {od_law_pick an_law_pick : Option Addr} {sl_law_pick : Array (Option Value)} {f__law_kinds : Addr} {oc_law_kinds kV_law_kinds dc_law_kinds pm_law_kinds cv_law_kinds ct_law_kinds : Value} {od_law_kinds an_law_kinds : Option Addr} {sl_law_kinds : Array (Option Value)} {f__law_apart : Addr} {oc_law_apart kV_law_apart dc_law_apart pm_law_apart cv_law_apart ct_law_apart : Value} {od_law_apart an_law_apart : Option Addr} {sl_law_apart : Array (Option Value)} {f__law_raise : Addr} {oc_law_raise kV_law_raise dc_law_raise pm_law_raise cv_law_raise ct_law_raise : Value} {od_law_raise an_law_raise : Option Addr} {sl_law_raise : Array (Option Value)} {f__law_caught : Addr} {oc_law_caught kV_law_caught dc_law_caught pm_law_caught cv_law_caught ct_law_caught : Value} {od_law_caught an_law_caught : Option Addr} {sl_law_caught : Array (Option Value)} {f_law : Addr} {oclaw kVlaw dclaw pmlaw cvlaw ctlaw : Value} {odlaw anlaw : Option Addr} {sllaw : Array (Option Value)} {f__law_pen : Addr} {oc_law_pen kV_law_pen dc_law_pen pm_law_pen cv_law_pen ct_law_pen : Value} {od_law_pen an_law_pen : Option Addr} {sl_law_pen : Array (Option Value)}
    (hn_ValueError : PySem.W.nsIn K mainGlobals "ValueError" = some none)
    (hn_all : PySem.W.nsIn K mainGlobals "all" = some none)
    (hn_bool : PySem.W.nsIn K mainGlobals "bool" = some none)
    (hn_int : PySem.W.nsIn K mainGlobals "int" = some none)
    (hn_isinstance : PySem.W.nsIn K mainGlobals "isinstance" = some none)
    (hn_len : PySem.W.nsIn K mainGlobals "len" = some none)
    (hn_min : PySem.W.nsIn K mainGlobals "min" = some none)
    (hn_range : PySem.W.nsIn K mainGlobals "range" = some none)
    (hn_super : PySem.W.nsIn K mainGlobals "super" = some none)
    (hn_list : PySem.W.nsIn K mainGlobals "list" = some none)
    (ha_BadFile : PySem.W.nsIn K mainGlobals "BadFile" = some (some (.ref C_BadFile)))
    (ha_BadPromise : PySem.W.nsIn K mainGlobals "BadPromise" = some (some (.ref C_BadPromise)))
    (ha_BadValue : PySem.W.nsIn K mainGlobals "BadValue" = some (some (.ref C_BadValue)))
    (ha_Broken : PySem.W.nsIn K mainGlobals "Broken" = some (some (.ref C_Broken)))
    (ha_NoDivisor : PySem.W.nsIn K mainGlobals "NoDivisor" = some (some (.ref C_NoDivisor)))
    (ha_NotAFormat : PySem.W.nsIn K mainGlobals "NotAFormat" = some (some (.ref C_NotAFormat)))
    (ha_NotAFormula : PySem.W.nsIn K mainGlobals "NotAFormula" = some (some (.ref C_NotAFormula)))
    (ha_NotAName : PySem.W.nsIn K mainGlobals "NotAName" = some (some (.ref C_NotAName)))
    (ha_NotANumber : PySem.W.nsIn K mainGlobals "NotANumber" = some (some (.ref C_NotANumber)))
    (ha_NotMade : PySem.W.nsIn K mainGlobals "NotMade" = some (some (.ref C_NotMade)))
    (ha_NotTold : PySem.W.nsIn K mainGlobals "NotTold" = some (some (.ref C_NotTold)))
    (ha_NothingToRedo : PySem.W.nsIn K mainGlobals "NothingToRedo" = some (some (.ref C_NothingToRedo)))
    (ha_NothingToUndo : PySem.W.nsIn K mainGlobals "NothingToUndo" = some (some (.ref C_NothingToUndo)))
    (ha_OffGrid : PySem.W.nsIn K mainGlobals "OffGrid" = some (some (.ref C_OffGrid)))
    (ha_SheetError : PySem.W.nsIn K mainGlobals "SheetError" = some (some (.ref C_SheetError)))
    (ha_Taken : PySem.W.nsIn K mainGlobals "Taken" = some (some (.ref C_Taken)))
    (ha_TooHigh : PySem.W.nsIn K mainGlobals "TooHigh" = some (some (.ref C_TooHigh)))
    (ha_TooMany : PySem.W.nsIn K mainGlobals "TooMany" = some (some (.ref C_TooMany)))
    (ha_Turns : PySem.W.nsIn K mainGlobals "Turns" = some (some (.ref C_Turns)))
    (ha_Unknown : PySem.W.nsIn K mainGlobals "Unknown" = some (some (.ref C_Unknown)))
    (hex_BadFile : PySem.W.subIn K (.ref C_BadFile) (.type "BaseException") = some true)
    (hhd_BadFile : PySem.W.hasDictIn K C_BadFile = true)
    (hty_BadFile : PySem.W.typeIn K (.ref C_BadFile) = some (.type "type"))
    (hga_BadFile : PySem.W.findIn K (.ref C_BadFile) "__getattribute__" = some (some (.builtin "BaseException.__getattribute__")))
    (hgg_BadFile : PySem.W.findIn K (.ref C_BadFile) "__getattr__" = some none)
    (hno_BadFile_at : PySem.W.findIn K (.ref C_BadFile) "at" = some none)
    (hno_BadFile_line : PySem.W.findIn K (.ref C_BadFile) "line" = some none)
    (hex_BadPromise : PySem.W.subIn K (.ref C_BadPromise) (.type "BaseException") = some true)
    (hhd_BadPromise : PySem.W.hasDictIn K C_BadPromise = true)
    (hty_BadPromise : PySem.W.typeIn K (.ref C_BadPromise) = some (.type "type"))
    (hga_BadPromise : PySem.W.findIn K (.ref C_BadPromise) "__getattribute__" = some (some (.builtin "BaseException.__getattribute__")))
    (hgg_BadPromise : PySem.W.findIn K (.ref C_BadPromise) "__getattr__" = some none)
    (hno_BadPromise_promise : PySem.W.findIn K (.ref C_BadPromise) "promise" = some none)
    (hex_BadValue : PySem.W.subIn K (.ref C_BadValue) (.type "BaseException") = some true)
    (hhd_BadValue : PySem.W.hasDictIn K C_BadValue = true)
    (hty_BadValue : PySem.W.typeIn K (.ref C_BadValue) = some (.type "type"))
    (hga_BadValue : PySem.W.findIn K (.ref C_BadValue) "__getattribute__" = some (some (.builtin "BaseException.__getattribute__")))
    (hgg_BadValue : PySem.W.findIn K (.ref C_BadValue) "__getattr__" = some none)
    (hno_BadValue_value : PySem.W.findIn K (.ref C_BadValue) "value" = some none)
    (hex_Broken : PySem.W.subIn K (.ref C_Broken) (.type "BaseException") = some true)
    (hhd_Broken : PySem.W.hasDictIn K C_Broken = true)
    (hty_Broken : PySem.W.typeIn K (.ref C_Broken) = some (.type "type"))
    (hga_Broken : PySem.W.findIn K (.ref C_Broken) "__getattribute__" = some (some (.builtin "BaseException.__getattribute__")))
    (hgg_Broken : PySem.W.findIn K (.ref C_Broken) "__getattr__" = some none)
    (hno_Broken_promise : PySem.W.findIn K (.ref C_Broken) "promise" = some none)
    (hno_Broken_where : PySem.W.findIn K (.ref C_Broken) "where" = some none)
    (hex_NoDivisor : PySem.W.subIn K (.ref C_NoDivisor) (.type "BaseException") = some true)
    (hhd_NoDivisor : PySem.W.hasDictIn K C_NoDivisor = true)
    (hty_NoDivisor : PySem.W.typeIn K (.ref C_NoDivisor) = some (.type "type"))
    (hga_NoDivisor : PySem.W.findIn K (.ref C_NoDivisor) "__getattribute__" = some (some (.builtin "BaseException.__getattribute__")))
    (hgg_NoDivisor : PySem.W.findIn K (.ref C_NoDivisor) "__getattr__" = some none)
    (hex_NotAFormat : PySem.W.subIn K (.ref C_NotAFormat) (.type "BaseException") = some true)
    (hhd_NotAFormat : PySem.W.hasDictIn K C_NotAFormat = true)
    (hty_NotAFormat : PySem.W.typeIn K (.ref C_NotAFormat) = some (.type "type"))
    (hga_NotAFormat : PySem.W.findIn K (.ref C_NotAFormat) "__getattribute__" = some (some (.builtin "BaseException.__getattribute__")))
    (hgg_NotAFormat : PySem.W.findIn K (.ref C_NotAFormat) "__getattr__" = some none)
    (hno_NotAFormat_at : PySem.W.findIn K (.ref C_NotAFormat) "at" = some none)
    (hex_NotAFormula : PySem.W.subIn K (.ref C_NotAFormula) (.type "BaseException") = some true)
    (hhd_NotAFormula : PySem.W.hasDictIn K C_NotAFormula = true)
    (hty_NotAFormula : PySem.W.typeIn K (.ref C_NotAFormula) = some (.type "type"))
    (hga_NotAFormula : PySem.W.findIn K (.ref C_NotAFormula) "__getattribute__" = some (some (.builtin "BaseException.__getattribute__")))
    (hgg_NotAFormula : PySem.W.findIn K (.ref C_NotAFormula) "__getattr__" = some none)
    (hno_NotAFormula_at : PySem.W.findIn K (.ref C_NotAFormula) "at" = some none)
    (hex_NotAName : PySem.W.subIn K (.ref C_NotAName) (.type "BaseException") = some true)
    (hhd_NotAName : PySem.W.hasDictIn K C_NotAName = true)
    (hty_NotAName : PySem.W.typeIn K (.ref C_NotAName) = some (.type "type"))
    (hga_NotAName : PySem.W.findIn K (.ref C_NotAName) "__getattribute__" = some (some (.builtin "BaseException.__getattribute__")))
    (hgg_NotAName : PySem.W.findIn K (.ref C_NotAName) "__getattr__" = some none)
    (hno_NotAName_name : PySem.W.findIn K (.ref C_NotAName) "name" = some none)
    (hex_NotANumber : PySem.W.subIn K (.ref C_NotANumber) (.type "BaseException") = some true)
    (hhd_NotANumber : PySem.W.hasDictIn K C_NotANumber = true)
    (hty_NotANumber : PySem.W.typeIn K (.ref C_NotANumber) = some (.type "type"))
    (hga_NotANumber : PySem.W.findIn K (.ref C_NotANumber) "__getattribute__" = some (some (.builtin "BaseException.__getattribute__")))
    (hgg_NotANumber : PySem.W.findIn K (.ref C_NotANumber) "__getattr__" = some none)
    (hno_NotANumber_at : PySem.W.findIn K (.ref C_NotANumber) "at" = some none)
    (hex_NotMade : PySem.W.subIn K (.ref C_NotMade) (.type "BaseException") = some true)
    (hhd_NotMade : PySem.W.hasDictIn K C_NotMade = true)
    (hty_NotMade : PySem.W.typeIn K (.ref C_NotMade) = some (.type "type"))
    (hga_NotMade : PySem.W.findIn K (.ref C_NotMade) "__getattribute__" = some (some (.builtin "BaseException.__getattribute__")))
    (hgg_NotMade : PySem.W.findIn K (.ref C_NotMade) "__getattr__" = some none)
    (hno_NotMade_promise : PySem.W.findIn K (.ref C_NotMade) "promise" = some none)
    (hex_NotTold : PySem.W.subIn K (.ref C_NotTold) (.type "BaseException") = some true)
    (hhd_NotTold : PySem.W.hasDictIn K C_NotTold = true)
    (hty_NotTold : PySem.W.typeIn K (.ref C_NotTold) = some (.type "type"))
    (hga_NotTold : PySem.W.findIn K (.ref C_NotTold) "__getattribute__" = some (some (.builtin "BaseException.__getattribute__")))
    (hgg_NotTold : PySem.W.findIn K (.ref C_NotTold) "__getattr__" = some none)
    (hex_NothingToRedo : PySem.W.subIn K (.ref C_NothingToRedo) (.type "BaseException") = some true)
    (hhd_NothingToRedo : PySem.W.hasDictIn K C_NothingToRedo = true)
    (hty_NothingToRedo : PySem.W.typeIn K (.ref C_NothingToRedo) = some (.type "type"))
    (hga_NothingToRedo : PySem.W.findIn K (.ref C_NothingToRedo) "__getattribute__" = some (some (.builtin "BaseException.__getattribute__")))
    (hgg_NothingToRedo : PySem.W.findIn K (.ref C_NothingToRedo) "__getattr__" = some none)
    (hex_NothingToUndo : PySem.W.subIn K (.ref C_NothingToUndo) (.type "BaseException") = some true)
    (hhd_NothingToUndo : PySem.W.hasDictIn K C_NothingToUndo = true)
    (hty_NothingToUndo : PySem.W.typeIn K (.ref C_NothingToUndo) = some (.type "type"))
    (hga_NothingToUndo : PySem.W.findIn K (.ref C_NothingToUndo) "__getattribute__" = some (some (.builtin "BaseException.__getattribute__")))
    (hgg_NothingToUndo : PySem.W.findIn K (.ref C_NothingToUndo) "__getattr__" = some none)
    (hex_OffGrid : PySem.W.subIn K (.ref C_OffGrid) (.type "BaseException") = some true)
    (hhd_OffGrid : PySem.W.hasDictIn K C_OffGrid = true)
    (hty_OffGrid : PySem.W.typeIn K (.ref C_OffGrid) = some (.type "type"))
    (hga_OffGrid : PySem.W.findIn K (.ref C_OffGrid) "__getattribute__" = some (some (.builtin "BaseException.__getattribute__")))
    (hgg_OffGrid : PySem.W.findIn K (.ref C_OffGrid) "__getattr__" = some none)
    (hno_OffGrid_column : PySem.W.findIn K (.ref C_OffGrid) "column" = some none)
    (hno_OffGrid_row : PySem.W.findIn K (.ref C_OffGrid) "row" = some none)
    (hex_SheetError : PySem.W.subIn K (.ref C_SheetError) (.type "BaseException") = some true)
    (hhd_SheetError : PySem.W.hasDictIn K C_SheetError = true)
    (hty_SheetError : PySem.W.typeIn K (.ref C_SheetError) = some (.type "type"))
    (hex_Taken : PySem.W.subIn K (.ref C_Taken) (.type "BaseException") = some true)
    (hhd_Taken : PySem.W.hasDictIn K C_Taken = true)
    (hty_Taken : PySem.W.typeIn K (.ref C_Taken) = some (.type "type"))
    (hga_Taken : PySem.W.findIn K (.ref C_Taken) "__getattribute__" = some (some (.builtin "BaseException.__getattribute__")))
    (hgg_Taken : PySem.W.findIn K (.ref C_Taken) "__getattr__" = some none)
    (hno_Taken_name : PySem.W.findIn K (.ref C_Taken) "name" = some none)
    (hex_TooHigh : PySem.W.subIn K (.ref C_TooHigh) (.type "BaseException") = some true)
    (hhd_TooHigh : PySem.W.hasDictIn K C_TooHigh = true)
    (hty_TooHigh : PySem.W.typeIn K (.ref C_TooHigh) = some (.type "type"))
    (hga_TooHigh : PySem.W.findIn K (.ref C_TooHigh) "__getattribute__" = some (some (.builtin "BaseException.__getattribute__")))
    (hgg_TooHigh : PySem.W.findIn K (.ref C_TooHigh) "__getattr__" = some none)
    (hno_TooHigh_most : PySem.W.findIn K (.ref C_TooHigh) "most" = some none)
    (hex_TooMany : PySem.W.subIn K (.ref C_TooMany) (.type "BaseException") = some true)
    (hhd_TooMany : PySem.W.hasDictIn K C_TooMany = true)
    (hty_TooMany : PySem.W.typeIn K (.ref C_TooMany) = some (.type "type"))
    (hga_TooMany : PySem.W.findIn K (.ref C_TooMany) "__getattribute__" = some (some (.builtin "BaseException.__getattribute__")))
    (hgg_TooMany : PySem.W.findIn K (.ref C_TooMany) "__getattr__" = some none)
    (hno_TooMany_most : PySem.W.findIn K (.ref C_TooMany) "most" = some none)
    (hex_Turns : PySem.W.subIn K (.ref C_Turns) (.type "BaseException") = some true)
    (hhd_Turns : PySem.W.hasDictIn K C_Turns = true)
    (hty_Turns : PySem.W.typeIn K (.ref C_Turns) = some (.type "type"))
    (hga_Turns : PySem.W.findIn K (.ref C_Turns) "__getattribute__" = some (some (.builtin "BaseException.__getattribute__")))
    (hgg_Turns : PySem.W.findIn K (.ref C_Turns) "__getattr__" = some none)
    (hno_Turns_poly : PySem.W.findIn K (.ref C_Turns) "poly" = some none)
    (hex_Unknown : PySem.W.subIn K (.ref C_Unknown) (.type "BaseException") = some true)
    (hhd_Unknown : PySem.W.hasDictIn K C_Unknown = true)
    (hty_Unknown : PySem.W.typeIn K (.ref C_Unknown) = some (.type "type"))
    (hga_Unknown : PySem.W.findIn K (.ref C_Unknown) "__getattribute__" = some (some (.builtin "BaseException.__getattribute__")))
    (hgg_Unknown : PySem.W.findIn K (.ref C_Unknown) "__getattr__" = some none)
    (hno_Unknown_name : PySem.W.findIn K (.ref C_Unknown) "name" = some none)
    (hopq : PySem.W.nsIn K PySem.cStatics "thirdparty.any" = some none)
    (hhtop : (l.prog.main.scope.names.lookup ("super" : Str)).isSome = false)
    (hx_BadFile : K.lookup C_BadFile = some (excClassObj nm_BadFile q_BadFile C_BadFile N_BadFile bs_BadFile bm_BadFile true sn_BadFile sub_BadFile ab_BadFile col_BadFile dd_BadFile m0_BadFile m1_BadFile m2_BadFile m3_BadFile m5_BadFile "ValueError.__new__"))
    (hv_BadFile : PySem.HandSPX.refsVE bm_BadFile = true)
    (hsa_BadFile : PySem.W.findIn K (.ref C_BadFile) "__setattr__" = some (some (.builtin "object.__setattr__")))
    (hi_BadFile : PySem.W.findIn K (.ref C_BadFile) "__init__" = some (some (.ref fI_BadFile)))
    (ht_BadFile : PySem.W.typeIn K (.ref fI_BadFile) = some (.type "function"))
    (hl_BadFile : K.lookup fI_BadFile = some ⟨oc_BadFile, od_BadFile, .func (PySem.W.ksFn "__init__" "BadFile.__init__" (PySem.EY.iA "line" "at" ⟨61, 17, 61, 21⟩ ⟨61, 23, 61, 27⟩ ⟨61, 29, 61, 31⟩) (PySem.EY.iB "line" "at" ⟨62, 8, 62, 13⟩ ⟨62, 8, 62, 15⟩ ⟨62, 8, 62, 24⟩ ⟨62, 25, 62, 29⟩ ⟨62, 31, 62, 33⟩ ⟨62, 8, 62, 34⟩ ⟨62, 8, 62, 34⟩ ⟨63, 8, 63, 12⟩ ⟨63, 8, 63, 17⟩ ⟨63, 20, 63, 24⟩ ⟨63, 8, 63, 24⟩ ⟨64, 8, 64, 12⟩ ⟨64, 8, 64, 15⟩ ⟨64, 18, 64, 20⟩ ⟨64, 8, 64, 20⟩) (PySem.EY.iS "line" "at") .none .none dc_BadFile pm_BadFile an_BadFile (.ref cd_BadFile) ct_BadFile cc_BadFile), sl_BadFile⟩)
    (hco_BadFile : PySem.W.codeIn K (.ref cd_BadFile) "BadFile.__init__" = true)
    (hlc_BadFile : K.lookup cd_BadFile = some ⟨ccl_BadFile, cdd_BadFile, .fields vs_BadFile, ccs_BadFile⟩)
    (hvf_BadFile : vs_BadFile[2]? = some (.str fl_BadFile tf_BadFile))
    (hff_BadFile : ((l.prog.main.file : Str) == fl_BadFile) = true)
    (hlx_BadFile : K.lookup cc_BadFile = some ⟨cl_BadFile, cld_BadFile, .cell (some (.ref C_BadFile)), csl_BadFile⟩)
    (hk_BadFile : PySem.W.keepIn K (.ref C_BadFile) = true)
    (hve_BadFile : PySem.W.subIn K (.ref C_BadFile) (.type "ValueError") = some true)
    (hsu_BadFile : PySem.W.ks_superIn K C_BadFile C_BadFile "__init__" = some (some (.builtin "ValueError.__init__")))
    (hse_BadFile : PySem.W.mroIn K C_BadFile (.ref C_BadFile) = some true)
    (hx_BadPromise : K.lookup C_BadPromise = some (excClassObj nm_BadPromise q_BadPromise C_BadPromise N_BadPromise bs_BadPromise bm_BadPromise true sn_BadPromise sub_BadPromise ab_BadPromise col_BadPromise dd_BadPromise m0_BadPromise m1_BadPromise m2_BadPromise m3_BadPromise m5_BadPromise "ValueError.__new__"))
    (hv_BadPromise : PySem.HandSPX.refsVE bm_BadPromise = true)
    (hsa_BadPromise : PySem.W.findIn K (.ref C_BadPromise) "__setattr__" = some (some (.builtin "object.__setattr__")))
    (hi_BadPromise : PySem.W.findIn K (.ref C_BadPromise) "__init__" = some (some (.ref fI_BadPromise)))
    (ht_BadPromise : PySem.W.typeIn K (.ref fI_BadPromise) = some (.type "function"))
    (hl_BadPromise : K.lookup fI_BadPromise = some ⟨oc_BadPromise, od_BadPromise, .func (PySem.W.ksFn "__init__" "BadPromise.__init__" (PySem.EX.iA "promise" ⟨67, 17, 67, 21⟩ ⟨67, 23, 67, 30⟩) (PySem.EX.iB "promise" ⟨68, 8, 68, 13⟩ ⟨68, 8, 68, 15⟩ ⟨68, 8, 68, 24⟩ ⟨68, 25, 68, 32⟩ ⟨68, 8, 68, 33⟩ ⟨68, 8, 68, 33⟩ ⟨69, 8, 69, 12⟩ ⟨69, 8, 69, 20⟩ ⟨69, 23, 69, 30⟩ ⟨69, 8, 69, 30⟩) (PySem.EX.iS "promise") .none .none dc_BadPromise pm_BadPromise an_BadPromise (.ref cd_BadPromise) ct_BadPromise cc_BadPromise), sl_BadPromise⟩)
    (hco_BadPromise : PySem.W.codeIn K (.ref cd_BadPromise) "BadPromise.__init__" = true)
    (hlc_BadPromise : K.lookup cd_BadPromise = some ⟨ccl_BadPromise, cdd_BadPromise, .fields vs_BadPromise, ccs_BadPromise⟩)
    (hvf_BadPromise : vs_BadPromise[2]? = some (.str fl_BadPromise tf_BadPromise))
    (hff_BadPromise : ((l.prog.main.file : Str) == fl_BadPromise) = true)
    (hlx_BadPromise : K.lookup cc_BadPromise = some ⟨cl_BadPromise, cld_BadPromise, .cell (some (.ref C_BadPromise)), csl_BadPromise⟩)
    (hk_BadPromise : PySem.W.keepIn K (.ref C_BadPromise) = true)
    (hve_BadPromise : PySem.W.subIn K (.ref C_BadPromise) (.type "ValueError") = some true)
    (hsu_BadPromise : PySem.W.ks_superIn K C_BadPromise C_BadPromise "__init__" = some (some (.builtin "ValueError.__init__")))
    (hse_BadPromise : PySem.W.mroIn K C_BadPromise (.ref C_BadPromise) = some true)
    (hx_BadValue : K.lookup C_BadValue = some (excClassObj nm_BadValue q_BadValue C_BadValue N_BadValue bs_BadValue bm_BadValue true sn_BadValue sub_BadValue ab_BadValue col_BadValue dd_BadValue m0_BadValue m1_BadValue m2_BadValue m3_BadValue m5_BadValue "ValueError.__new__"))
    (hv_BadValue : PySem.HandSPX.refsVE bm_BadValue = true)
    (hsa_BadValue : PySem.W.findIn K (.ref C_BadValue) "__setattr__" = some (some (.builtin "object.__setattr__")))
    (hi_BadValue : PySem.W.findIn K (.ref C_BadValue) "__init__" = some (some (.ref fI_BadValue)))
    (ht_BadValue : PySem.W.typeIn K (.ref fI_BadValue) = some (.type "function"))
    (hl_BadValue : K.lookup fI_BadValue = some ⟨oc_BadValue, od_BadValue, .func (PySem.W.ksFn "__init__" "BadValue.__init__" (PySem.EX.iA "value" ⟨6, 17, 6, 21⟩ ⟨6, 23, 6, 28⟩) (PySem.EX.iB "value" ⟨7, 8, 7, 13⟩ ⟨7, 8, 7, 15⟩ ⟨7, 8, 7, 24⟩ ⟨7, 25, 7, 30⟩ ⟨7, 8, 7, 31⟩ ⟨7, 8, 7, 31⟩ ⟨8, 8, 8, 12⟩ ⟨8, 8, 8, 18⟩ ⟨8, 21, 8, 26⟩ ⟨8, 8, 8, 26⟩) (PySem.EX.iS "value") .none .none dc_BadValue pm_BadValue an_BadValue (.ref cd_BadValue) ct_BadValue cc_BadValue), sl_BadValue⟩)
    (hco_BadValue : PySem.W.codeIn K (.ref cd_BadValue) "BadValue.__init__" = true)
    (hlc_BadValue : K.lookup cd_BadValue = some ⟨ccl_BadValue, cdd_BadValue, .fields vs_BadValue, ccs_BadValue⟩)
    (hvf_BadValue : vs_BadValue[2]? = some (.str fl_BadValue tf_BadValue))
    (hff_BadValue : ((l.prog.main.file : Str) == fl_BadValue) = true)
    (hlx_BadValue : K.lookup cc_BadValue = some ⟨cl_BadValue, cld_BadValue, .cell (some (.ref C_BadValue)), csl_BadValue⟩)
    (hk_BadValue : PySem.W.keepIn K (.ref C_BadValue) = true)
    (hve_BadValue : PySem.W.subIn K (.ref C_BadValue) (.type "ValueError") = some true)
    (hsu_BadValue : PySem.W.ks_superIn K C_BadValue C_BadValue "__init__" = some (some (.builtin "ValueError.__init__")))
    (hse_BadValue : PySem.W.mroIn K C_BadValue (.ref C_BadValue) = some true)
    (hx_Broken : K.lookup C_Broken = some (excClassObj nm_Broken q_Broken C_Broken N_Broken bs_Broken bm_Broken true sn_Broken sub_Broken ab_Broken col_Broken dd_Broken m0_Broken m1_Broken m2_Broken m3_Broken m5_Broken "ValueError.__new__"))
    (hv_Broken : PySem.HandSPX.refsVE bm_Broken = true)
    (hsa_Broken : PySem.W.findIn K (.ref C_Broken) "__setattr__" = some (some (.builtin "object.__setattr__")))
    (hi_Broken : PySem.W.findIn K (.ref C_Broken) "__init__" = some (some (.ref fI_Broken)))
    (ht_Broken : PySem.W.typeIn K (.ref fI_Broken) = some (.type "function"))
    (hl_Broken : K.lookup fI_Broken = some ⟨oc_Broken, od_Broken, .func (PySem.W.ksFn "__init__" "Broken.__init__" (PySem.EY.iA "promise" "where" ⟨72, 17, 72, 21⟩ ⟨72, 23, 72, 30⟩ ⟨72, 32, 72, 37⟩) (PySem.EY.iB "promise" "where" ⟨73, 8, 73, 13⟩ ⟨73, 8, 73, 15⟩ ⟨73, 8, 73, 24⟩ ⟨73, 25, 73, 32⟩ ⟨73, 34, 73, 39⟩ ⟨73, 8, 73, 40⟩ ⟨73, 8, 73, 40⟩ ⟨74, 8, 74, 12⟩ ⟨74, 8, 74, 20⟩ ⟨74, 23, 74, 30⟩ ⟨74, 8, 74, 30⟩ ⟨75, 8, 75, 12⟩ ⟨75, 8, 75, 18⟩ ⟨75, 21, 75, 26⟩ ⟨75, 8, 75, 26⟩) (PySem.EY.iS "promise" "where") .none .none dc_Broken pm_Broken an_Broken (.ref cd_Broken) ct_Broken cc_Broken), sl_Broken⟩)
    (hco_Broken : PySem.W.codeIn K (.ref cd_Broken) "Broken.__init__" = true)
    (hlc_Broken : K.lookup cd_Broken = some ⟨ccl_Broken, cdd_Broken, .fields vs_Broken, ccs_Broken⟩)
    (hvf_Broken : vs_Broken[2]? = some (.str fl_Broken tf_Broken))
    (hff_Broken : ((l.prog.main.file : Str) == fl_Broken) = true)
    (hlx_Broken : K.lookup cc_Broken = some ⟨cl_Broken, cld_Broken, .cell (some (.ref C_Broken)), csl_Broken⟩)
    (hk_Broken : PySem.W.keepIn K (.ref C_Broken) = true)
    (hve_Broken : PySem.W.subIn K (.ref C_Broken) (.type "ValueError") = some true)
    (hsu_Broken : PySem.W.ks_superIn K C_Broken C_Broken "__init__" = some (some (.builtin "ValueError.__init__")))
    (hse_Broken : PySem.W.mroIn K C_Broken (.ref C_Broken) = some true)
    (hx_NotAFormat : K.lookup C_NotAFormat = some (excClassObj nm_NotAFormat q_NotAFormat C_NotAFormat N_NotAFormat bs_NotAFormat bm_NotAFormat true sn_NotAFormat sub_NotAFormat ab_NotAFormat col_NotAFormat dd_NotAFormat m0_NotAFormat m1_NotAFormat m2_NotAFormat m3_NotAFormat m5_NotAFormat "ValueError.__new__"))
    (hv_NotAFormat : PySem.HandSPX.refsVE bm_NotAFormat = true)
    (hsa_NotAFormat : PySem.W.findIn K (.ref C_NotAFormat) "__setattr__" = some (some (.builtin "object.__setattr__")))
    (hi_NotAFormat : PySem.W.findIn K (.ref C_NotAFormat) "__init__" = some (some (.ref fI_NotAFormat)))
    (ht_NotAFormat : PySem.W.typeIn K (.ref fI_NotAFormat) = some (.type "function"))
    (hl_NotAFormat : K.lookup fI_NotAFormat = some ⟨oc_NotAFormat, od_NotAFormat, .func (PySem.W.ksFn "__init__" "NotAFormat.__init__" (PySem.EX.iA "at" ⟨35, 17, 35, 21⟩ ⟨35, 23, 35, 25⟩) (PySem.EX.iB "at" ⟨36, 8, 36, 13⟩ ⟨36, 8, 36, 15⟩ ⟨36, 8, 36, 24⟩ ⟨36, 25, 36, 27⟩ ⟨36, 8, 36, 28⟩ ⟨36, 8, 36, 28⟩ ⟨37, 8, 37, 12⟩ ⟨37, 8, 37, 15⟩ ⟨37, 18, 37, 20⟩ ⟨37, 8, 37, 20⟩) (PySem.EX.iS "at") .none .none dc_NotAFormat pm_NotAFormat an_NotAFormat (.ref cd_NotAFormat) ct_NotAFormat cc_NotAFormat), sl_NotAFormat⟩)
    (hco_NotAFormat : PySem.W.codeIn K (.ref cd_NotAFormat) "NotAFormat.__init__" = true)
    (hlc_NotAFormat : K.lookup cd_NotAFormat = some ⟨ccl_NotAFormat, cdd_NotAFormat, .fields vs_NotAFormat, ccs_NotAFormat⟩)
    (hvf_NotAFormat : vs_NotAFormat[2]? = some (.str fl_NotAFormat tf_NotAFormat))
    (hff_NotAFormat : ((l.prog.main.file : Str) == fl_NotAFormat) = true)
    (hlx_NotAFormat : K.lookup cc_NotAFormat = some ⟨cl_NotAFormat, cld_NotAFormat, .cell (some (.ref C_NotAFormat)), csl_NotAFormat⟩)
    (hk_NotAFormat : PySem.W.keepIn K (.ref C_NotAFormat) = true)
    (hve_NotAFormat : PySem.W.subIn K (.ref C_NotAFormat) (.type "ValueError") = some true)
    (hsu_NotAFormat : PySem.W.ks_superIn K C_NotAFormat C_NotAFormat "__init__" = some (some (.builtin "ValueError.__init__")))
    (hse_NotAFormat : PySem.W.mroIn K C_NotAFormat (.ref C_NotAFormat) = some true)
    (hx_NotAFormula : K.lookup C_NotAFormula = some (excClassObj nm_NotAFormula q_NotAFormula C_NotAFormula N_NotAFormula bs_NotAFormula bm_NotAFormula true sn_NotAFormula sub_NotAFormula ab_NotAFormula col_NotAFormula dd_NotAFormula m0_NotAFormula m1_NotAFormula m2_NotAFormula m3_NotAFormula m5_NotAFormula "ValueError.__new__"))
    (hv_NotAFormula : PySem.HandSPX.refsVE bm_NotAFormula = true)
    (hsa_NotAFormula : PySem.W.findIn K (.ref C_NotAFormula) "__setattr__" = some (some (.builtin "object.__setattr__")))
    (hi_NotAFormula : PySem.W.findIn K (.ref C_NotAFormula) "__init__" = some (some (.ref fI_NotAFormula)))
    (ht_NotAFormula : PySem.W.typeIn K (.ref fI_NotAFormula) = some (.type "function"))
    (hl_NotAFormula : K.lookup fI_NotAFormula = some ⟨oc_NotAFormula, od_NotAFormula, .func (PySem.W.ksFn "__init__" "NotAFormula.__init__" (PySem.EX.iA "at" ⟨25, 17, 25, 21⟩ ⟨25, 23, 25, 25⟩) (PySem.EX.iB "at" ⟨26, 8, 26, 13⟩ ⟨26, 8, 26, 15⟩ ⟨26, 8, 26, 24⟩ ⟨26, 25, 26, 27⟩ ⟨26, 8, 26, 28⟩ ⟨26, 8, 26, 28⟩ ⟨27, 8, 27, 12⟩ ⟨27, 8, 27, 15⟩ ⟨27, 18, 27, 20⟩ ⟨27, 8, 27, 20⟩) (PySem.EX.iS "at") .none .none dc_NotAFormula pm_NotAFormula an_NotAFormula (.ref cd_NotAFormula) ct_NotAFormula cc_NotAFormula), sl_NotAFormula⟩)
    (hco_NotAFormula : PySem.W.codeIn K (.ref cd_NotAFormula) "NotAFormula.__init__" = true)
    (hlc_NotAFormula : K.lookup cd_NotAFormula = some ⟨ccl_NotAFormula, cdd_NotAFormula, .fields vs_NotAFormula, ccs_NotAFormula⟩)
    (hvf_NotAFormula : vs_NotAFormula[2]? = some (.str fl_NotAFormula tf_NotAFormula))
    (hff_NotAFormula : ((l.prog.main.file : Str) == fl_NotAFormula) = true)
    (hlx_NotAFormula : K.lookup cc_NotAFormula = some ⟨cl_NotAFormula, cld_NotAFormula, .cell (some (.ref C_NotAFormula)), csl_NotAFormula⟩)
    (hk_NotAFormula : PySem.W.keepIn K (.ref C_NotAFormula) = true)
    (hve_NotAFormula : PySem.W.subIn K (.ref C_NotAFormula) (.type "ValueError") = some true)
    (hsu_NotAFormula : PySem.W.ks_superIn K C_NotAFormula C_NotAFormula "__init__" = some (some (.builtin "ValueError.__init__")))
    (hse_NotAFormula : PySem.W.mroIn K C_NotAFormula (.ref C_NotAFormula) = some true)
    (hx_NotAName : K.lookup C_NotAName = some (excClassObj nm_NotAName q_NotAName C_NotAName N_NotAName bs_NotAName bm_NotAName true sn_NotAName sub_NotAName ab_NotAName col_NotAName dd_NotAName m0_NotAName m1_NotAName m2_NotAName m3_NotAName m5_NotAName "ValueError.__new__"))
    (hv_NotAName : PySem.HandSPX.refsVE bm_NotAName = true)
    (hsa_NotAName : PySem.W.findIn K (.ref C_NotAName) "__setattr__" = some (some (.builtin "object.__setattr__")))
    (hi_NotAName : PySem.W.findIn K (.ref C_NotAName) "__init__" = some (some (.ref fI_NotAName)))
    (ht_NotAName : PySem.W.typeIn K (.ref fI_NotAName) = some (.type "function"))
    (hl_NotAName : K.lookup fI_NotAName = some ⟨oc_NotAName, od_NotAName, .func (PySem.W.ksFn "__init__" "NotAName.__init__" (PySem.EX.iA "name" ⟨40, 17, 40, 21⟩ ⟨40, 23, 40, 27⟩) (PySem.EX.iB "name" ⟨41, 8, 41, 13⟩ ⟨41, 8, 41, 15⟩ ⟨41, 8, 41, 24⟩ ⟨41, 25, 41, 29⟩ ⟨41, 8, 41, 30⟩ ⟨41, 8, 41, 30⟩ ⟨42, 8, 42, 12⟩ ⟨42, 8, 42, 17⟩ ⟨42, 20, 42, 24⟩ ⟨42, 8, 42, 24⟩) (PySem.EX.iS "name") .none .none dc_NotAName pm_NotAName an_NotAName (.ref cd_NotAName) ct_NotAName cc_NotAName), sl_NotAName⟩)
    (hco_NotAName : PySem.W.codeIn K (.ref cd_NotAName) "NotAName.__init__" = true)
    (hlc_NotAName : K.lookup cd_NotAName = some ⟨ccl_NotAName, cdd_NotAName, .fields vs_NotAName, ccs_NotAName⟩)
    (hvf_NotAName : vs_NotAName[2]? = some (.str fl_NotAName tf_NotAName))
    (hff_NotAName : ((l.prog.main.file : Str) == fl_NotAName) = true)
    (hlx_NotAName : K.lookup cc_NotAName = some ⟨cl_NotAName, cld_NotAName, .cell (some (.ref C_NotAName)), csl_NotAName⟩)
    (hk_NotAName : PySem.W.keepIn K (.ref C_NotAName) = true)
    (hve_NotAName : PySem.W.subIn K (.ref C_NotAName) (.type "ValueError") = some true)
    (hsu_NotAName : PySem.W.ks_superIn K C_NotAName C_NotAName "__init__" = some (some (.builtin "ValueError.__init__")))
    (hse_NotAName : PySem.W.mroIn K C_NotAName (.ref C_NotAName) = some true)
    (hx_NotANumber : K.lookup C_NotANumber = some (excClassObj nm_NotANumber q_NotANumber C_NotANumber N_NotANumber bs_NotANumber bm_NotANumber true sn_NotANumber sub_NotANumber ab_NotANumber col_NotANumber dd_NotANumber m0_NotANumber m1_NotANumber m2_NotANumber m3_NotANumber m5_NotANumber "ValueError.__new__"))
    (hv_NotANumber : PySem.HandSPX.refsVE bm_NotANumber = true)
    (hsa_NotANumber : PySem.W.findIn K (.ref C_NotANumber) "__setattr__" = some (some (.builtin "object.__setattr__")))
    (hi_NotANumber : PySem.W.findIn K (.ref C_NotANumber) "__init__" = some (some (.ref fI_NotANumber)))
    (ht_NotANumber : PySem.W.typeIn K (.ref fI_NotANumber) = some (.type "function"))
    (hl_NotANumber : K.lookup fI_NotANumber = some ⟨oc_NotANumber, od_NotANumber, .func (PySem.W.ksFn "__init__" "NotANumber.__init__" (PySem.EX.iA "at" ⟨30, 17, 30, 21⟩ ⟨30, 23, 30, 25⟩) (PySem.EX.iB "at" ⟨31, 8, 31, 13⟩ ⟨31, 8, 31, 15⟩ ⟨31, 8, 31, 24⟩ ⟨31, 25, 31, 27⟩ ⟨31, 8, 31, 28⟩ ⟨31, 8, 31, 28⟩ ⟨32, 8, 32, 12⟩ ⟨32, 8, 32, 15⟩ ⟨32, 18, 32, 20⟩ ⟨32, 8, 32, 20⟩) (PySem.EX.iS "at") .none .none dc_NotANumber pm_NotANumber an_NotANumber (.ref cd_NotANumber) ct_NotANumber cc_NotANumber), sl_NotANumber⟩)
    (hco_NotANumber : PySem.W.codeIn K (.ref cd_NotANumber) "NotANumber.__init__" = true)
    (hlc_NotANumber : K.lookup cd_NotANumber = some ⟨ccl_NotANumber, cdd_NotANumber, .fields vs_NotANumber, ccs_NotANumber⟩)
    (hvf_NotANumber : vs_NotANumber[2]? = some (.str fl_NotANumber tf_NotANumber))
    (hff_NotANumber : ((l.prog.main.file : Str) == fl_NotANumber) = true)
    (hlx_NotANumber : K.lookup cc_NotANumber = some ⟨cl_NotANumber, cld_NotANumber, .cell (some (.ref C_NotANumber)), csl_NotANumber⟩)
    (hk_NotANumber : PySem.W.keepIn K (.ref C_NotANumber) = true)
    (hve_NotANumber : PySem.W.subIn K (.ref C_NotANumber) (.type "ValueError") = some true)
    (hsu_NotANumber : PySem.W.ks_superIn K C_NotANumber C_NotANumber "__init__" = some (some (.builtin "ValueError.__init__")))
    (hse_NotANumber : PySem.W.mroIn K C_NotANumber (.ref C_NotANumber) = some true)
    (hx_NotMade : K.lookup C_NotMade = some (excClassObj nm_NotMade q_NotMade C_NotMade N_NotMade bs_NotMade bm_NotMade true sn_NotMade sub_NotMade ab_NotMade col_NotMade dd_NotMade m0_NotMade m1_NotMade m2_NotMade m3_NotMade m5_NotMade "ValueError.__new__"))
    (hv_NotMade : PySem.HandSPX.refsVE bm_NotMade = true)
    (hsa_NotMade : PySem.W.findIn K (.ref C_NotMade) "__setattr__" = some (some (.builtin "object.__setattr__")))
    (hi_NotMade : PySem.W.findIn K (.ref C_NotMade) "__init__" = some (some (.ref fI_NotMade)))
    (ht_NotMade : PySem.W.typeIn K (.ref fI_NotMade) = some (.type "function"))
    (hl_NotMade : K.lookup fI_NotMade = some ⟨oc_NotMade, od_NotMade, .func (PySem.W.ksFn "__init__" "NotMade.__init__" (PySem.EX.iA "promise" ⟨78, 17, 78, 21⟩ ⟨78, 23, 78, 30⟩) (PySem.EX.iB "promise" ⟨79, 8, 79, 13⟩ ⟨79, 8, 79, 15⟩ ⟨79, 8, 79, 24⟩ ⟨79, 25, 79, 32⟩ ⟨79, 8, 79, 33⟩ ⟨79, 8, 79, 33⟩ ⟨80, 8, 80, 12⟩ ⟨80, 8, 80, 20⟩ ⟨80, 23, 80, 30⟩ ⟨80, 8, 80, 30⟩) (PySem.EX.iS "promise") .none .none dc_NotMade pm_NotMade an_NotMade (.ref cd_NotMade) ct_NotMade cc_NotMade), sl_NotMade⟩)
    (hco_NotMade : PySem.W.codeIn K (.ref cd_NotMade) "NotMade.__init__" = true)
    (hlc_NotMade : K.lookup cd_NotMade = some ⟨ccl_NotMade, cdd_NotMade, .fields vs_NotMade, ccs_NotMade⟩)
    (hvf_NotMade : vs_NotMade[2]? = some (.str fl_NotMade tf_NotMade))
    (hff_NotMade : ((l.prog.main.file : Str) == fl_NotMade) = true)
    (hlx_NotMade : K.lookup cc_NotMade = some ⟨cl_NotMade, cld_NotMade, .cell (some (.ref C_NotMade)), csl_NotMade⟩)
    (hk_NotMade : PySem.W.keepIn K (.ref C_NotMade) = true)
    (hve_NotMade : PySem.W.subIn K (.ref C_NotMade) (.type "ValueError") = some true)
    (hsu_NotMade : PySem.W.ks_superIn K C_NotMade C_NotMade "__init__" = some (some (.builtin "ValueError.__init__")))
    (hse_NotMade : PySem.W.mroIn K C_NotMade (.ref C_NotMade) = some true)
    (hx_OffGrid : K.lookup C_OffGrid = some (excClassObj nm_OffGrid q_OffGrid C_OffGrid N_OffGrid bs_OffGrid bm_OffGrid true sn_OffGrid sub_OffGrid ab_OffGrid col_OffGrid dd_OffGrid m0_OffGrid m1_OffGrid m2_OffGrid m3_OffGrid m5_OffGrid "ValueError.__new__"))
    (hv_OffGrid : PySem.HandSPX.refsVE bm_OffGrid = true)
    (hsa_OffGrid : PySem.W.findIn K (.ref C_OffGrid) "__setattr__" = some (some (.builtin "object.__setattr__")))
    (hi_OffGrid : PySem.W.findIn K (.ref C_OffGrid) "__init__" = some (some (.ref fI_OffGrid)))
    (ht_OffGrid : PySem.W.typeIn K (.ref fI_OffGrid) = some (.type "function"))
    (hl_OffGrid : K.lookup fI_OffGrid = some ⟨oc_OffGrid, od_OffGrid, .func (PySem.W.ksFn "__init__" "OffGrid.__init__" (PySem.EY.iA "row" "column" ⟨45, 17, 45, 21⟩ ⟨45, 23, 45, 26⟩ ⟨45, 28, 45, 34⟩) (PySem.EY.iB "row" "column" ⟨46, 8, 46, 13⟩ ⟨46, 8, 46, 15⟩ ⟨46, 8, 46, 24⟩ ⟨46, 25, 46, 28⟩ ⟨46, 30, 46, 36⟩ ⟨46, 8, 46, 37⟩ ⟨46, 8, 46, 37⟩ ⟨47, 8, 47, 12⟩ ⟨47, 8, 47, 16⟩ ⟨47, 19, 47, 22⟩ ⟨47, 8, 47, 22⟩ ⟨48, 8, 48, 12⟩ ⟨48, 8, 48, 19⟩ ⟨48, 22, 48, 28⟩ ⟨48, 8, 48, 28⟩) (PySem.EY.iS "row" "column") .none .none dc_OffGrid pm_OffGrid an_OffGrid (.ref cd_OffGrid) ct_OffGrid cc_OffGrid), sl_OffGrid⟩)
    (hco_OffGrid : PySem.W.codeIn K (.ref cd_OffGrid) "OffGrid.__init__" = true)
    (hlc_OffGrid : K.lookup cd_OffGrid = some ⟨ccl_OffGrid, cdd_OffGrid, .fields vs_OffGrid, ccs_OffGrid⟩)
    (hvf_OffGrid : vs_OffGrid[2]? = some (.str fl_OffGrid tf_OffGrid))
    (hff_OffGrid : ((l.prog.main.file : Str) == fl_OffGrid) = true)
    (hlx_OffGrid : K.lookup cc_OffGrid = some ⟨cl_OffGrid, cld_OffGrid, .cell (some (.ref C_OffGrid)), csl_OffGrid⟩)
    (hk_OffGrid : PySem.W.keepIn K (.ref C_OffGrid) = true)
    (hve_OffGrid : PySem.W.subIn K (.ref C_OffGrid) (.type "ValueError") = some true)
    (hsu_OffGrid : PySem.W.ks_superIn K C_OffGrid C_OffGrid "__init__" = some (some (.builtin "ValueError.__init__")))
    (hse_OffGrid : PySem.W.mroIn K C_OffGrid (.ref C_OffGrid) = some true)
    (hx_Taken : K.lookup C_Taken = some (excClassObj nm_Taken q_Taken C_Taken N_Taken bs_Taken bm_Taken true sn_Taken sub_Taken ab_Taken col_Taken dd_Taken m0_Taken m1_Taken m2_Taken m3_Taken m5_Taken "ValueError.__new__"))
    (hv_Taken : PySem.HandSPX.refsVE bm_Taken = true)
    (hsa_Taken : PySem.W.findIn K (.ref C_Taken) "__setattr__" = some (some (.builtin "object.__setattr__")))
    (hi_Taken : PySem.W.findIn K (.ref C_Taken) "__init__" = some (some (.ref fI_Taken)))
    (ht_Taken : PySem.W.typeIn K (.ref fI_Taken) = some (.type "function"))
    (hl_Taken : K.lookup fI_Taken = some ⟨oc_Taken, od_Taken, .func (PySem.W.ksFn "__init__" "Taken.__init__" (PySem.EX.iA "name" ⟨56, 17, 56, 21⟩ ⟨56, 23, 56, 27⟩) (PySem.EX.iB "name" ⟨57, 8, 57, 13⟩ ⟨57, 8, 57, 15⟩ ⟨57, 8, 57, 24⟩ ⟨57, 25, 57, 29⟩ ⟨57, 8, 57, 30⟩ ⟨57, 8, 57, 30⟩ ⟨58, 8, 58, 12⟩ ⟨58, 8, 58, 17⟩ ⟨58, 20, 58, 24⟩ ⟨58, 8, 58, 24⟩) (PySem.EX.iS "name") .none .none dc_Taken pm_Taken an_Taken (.ref cd_Taken) ct_Taken cc_Taken), sl_Taken⟩)
    (hco_Taken : PySem.W.codeIn K (.ref cd_Taken) "Taken.__init__" = true)
    (hlc_Taken : K.lookup cd_Taken = some ⟨ccl_Taken, cdd_Taken, .fields vs_Taken, ccs_Taken⟩)
    (hvf_Taken : vs_Taken[2]? = some (.str fl_Taken tf_Taken))
    (hff_Taken : ((l.prog.main.file : Str) == fl_Taken) = true)
    (hlx_Taken : K.lookup cc_Taken = some ⟨cl_Taken, cld_Taken, .cell (some (.ref C_Taken)), csl_Taken⟩)
    (hk_Taken : PySem.W.keepIn K (.ref C_Taken) = true)
    (hve_Taken : PySem.W.subIn K (.ref C_Taken) (.type "ValueError") = some true)
    (hsu_Taken : PySem.W.ks_superIn K C_Taken C_Taken "__init__" = some (some (.builtin "ValueError.__init__")))
    (hse_Taken : PySem.W.mroIn K C_Taken (.ref C_Taken) = some true)
    (hx_TooHigh : K.lookup C_TooHigh = some (excClassObj nm_TooHigh q_TooHigh C_TooHigh N_TooHigh bs_TooHigh bm_TooHigh true sn_TooHigh sub_TooHigh ab_TooHigh col_TooHigh dd_TooHigh m0_TooHigh m1_TooHigh m2_TooHigh m3_TooHigh m5_TooHigh "ValueError.__new__"))
    (hv_TooHigh : PySem.HandSPX.refsVE bm_TooHigh = true)
    (hsa_TooHigh : PySem.W.findIn K (.ref C_TooHigh) "__setattr__" = some (some (.builtin "object.__setattr__")))
    (hi_TooHigh : PySem.W.findIn K (.ref C_TooHigh) "__init__" = some (some (.ref fI_TooHigh)))
    (ht_TooHigh : PySem.W.typeIn K (.ref fI_TooHigh) = some (.type "function"))
    (hl_TooHigh : K.lookup fI_TooHigh = some ⟨oc_TooHigh, od_TooHigh, .func (PySem.W.ksFn "__init__" "TooHigh.__init__" (PySem.EX.iA "most" ⟨15, 17, 15, 21⟩ ⟨15, 23, 15, 27⟩) (PySem.EX.iB "most" ⟨16, 8, 16, 13⟩ ⟨16, 8, 16, 15⟩ ⟨16, 8, 16, 24⟩ ⟨16, 25, 16, 29⟩ ⟨16, 8, 16, 30⟩ ⟨16, 8, 16, 30⟩ ⟨17, 8, 17, 12⟩ ⟨17, 8, 17, 17⟩ ⟨17, 20, 17, 24⟩ ⟨17, 8, 17, 24⟩) (PySem.EX.iS "most") .none .none dc_TooHigh pm_TooHigh an_TooHigh (.ref cd_TooHigh) ct_TooHigh cc_TooHigh), sl_TooHigh⟩)
    (hco_TooHigh : PySem.W.codeIn K (.ref cd_TooHigh) "TooHigh.__init__" = true)
    (hlc_TooHigh : K.lookup cd_TooHigh = some ⟨ccl_TooHigh, cdd_TooHigh, .fields vs_TooHigh, ccs_TooHigh⟩)
    (hvf_TooHigh : vs_TooHigh[2]? = some (.str fl_TooHigh tf_TooHigh))
    (hff_TooHigh : ((l.prog.main.file : Str) == fl_TooHigh) = true)
    (hlx_TooHigh : K.lookup cc_TooHigh = some ⟨cl_TooHigh, cld_TooHigh, .cell (some (.ref C_TooHigh)), csl_TooHigh⟩)
    (hk_TooHigh : PySem.W.keepIn K (.ref C_TooHigh) = true)
    (hve_TooHigh : PySem.W.subIn K (.ref C_TooHigh) (.type "ValueError") = some true)
    (hsu_TooHigh : PySem.W.ks_superIn K C_TooHigh C_TooHigh "__init__" = some (some (.builtin "ValueError.__init__")))
    (hse_TooHigh : PySem.W.mroIn K C_TooHigh (.ref C_TooHigh) = some true)
    (hx_TooMany : K.lookup C_TooMany = some (excClassObj nm_TooMany q_TooMany C_TooMany N_TooMany bs_TooMany bm_TooMany true sn_TooMany sub_TooMany ab_TooMany col_TooMany dd_TooMany m0_TooMany m1_TooMany m2_TooMany m3_TooMany m5_TooMany "ValueError.__new__"))
    (hv_TooMany : PySem.HandSPX.refsVE bm_TooMany = true)
    (hsa_TooMany : PySem.W.findIn K (.ref C_TooMany) "__setattr__" = some (some (.builtin "object.__setattr__")))
    (hi_TooMany : PySem.W.findIn K (.ref C_TooMany) "__init__" = some (some (.ref fI_TooMany)))
    (ht_TooMany : PySem.W.typeIn K (.ref fI_TooMany) = some (.type "function"))
    (hl_TooMany : K.lookup fI_TooMany = some ⟨oc_TooMany, od_TooMany, .func (PySem.W.ksFn "__init__" "TooMany.__init__" (PySem.EX.iA "most" ⟨20, 17, 20, 21⟩ ⟨20, 23, 20, 27⟩) (PySem.EX.iB "most" ⟨21, 8, 21, 13⟩ ⟨21, 8, 21, 15⟩ ⟨21, 8, 21, 24⟩ ⟨21, 25, 21, 29⟩ ⟨21, 8, 21, 30⟩ ⟨21, 8, 21, 30⟩ ⟨22, 8, 22, 12⟩ ⟨22, 8, 22, 17⟩ ⟨22, 20, 22, 24⟩ ⟨22, 8, 22, 24⟩) (PySem.EX.iS "most") .none .none dc_TooMany pm_TooMany an_TooMany (.ref cd_TooMany) ct_TooMany cc_TooMany), sl_TooMany⟩)
    (hco_TooMany : PySem.W.codeIn K (.ref cd_TooMany) "TooMany.__init__" = true)
    (hlc_TooMany : K.lookup cd_TooMany = some ⟨ccl_TooMany, cdd_TooMany, .fields vs_TooMany, ccs_TooMany⟩)
    (hvf_TooMany : vs_TooMany[2]? = some (.str fl_TooMany tf_TooMany))
    (hff_TooMany : ((l.prog.main.file : Str) == fl_TooMany) = true)
    (hlx_TooMany : K.lookup cc_TooMany = some ⟨cl_TooMany, cld_TooMany, .cell (some (.ref C_TooMany)), csl_TooMany⟩)
    (hk_TooMany : PySem.W.keepIn K (.ref C_TooMany) = true)
    (hve_TooMany : PySem.W.subIn K (.ref C_TooMany) (.type "ValueError") = some true)
    (hsu_TooMany : PySem.W.ks_superIn K C_TooMany C_TooMany "__init__" = some (some (.builtin "ValueError.__init__")))
    (hse_TooMany : PySem.W.mroIn K C_TooMany (.ref C_TooMany) = some true)
    (hx_Turns : K.lookup C_Turns = some (excClassObj nm_Turns q_Turns C_Turns N_Turns bs_Turns bm_Turns true sn_Turns sub_Turns ab_Turns col_Turns dd_Turns m0_Turns m1_Turns m2_Turns m3_Turns m5_Turns "ValueError.__new__"))
    (hv_Turns : PySem.HandSPX.refsVE bm_Turns = true)
    (hsa_Turns : PySem.W.findIn K (.ref C_Turns) "__setattr__" = some (some (.builtin "object.__setattr__")))
    (hi_Turns : PySem.W.findIn K (.ref C_Turns) "__init__" = some (some (.ref fI_Turns)))
    (ht_Turns : PySem.W.typeIn K (.ref fI_Turns) = some (.type "function"))
    (hl_Turns : K.lookup fI_Turns = some ⟨oc_Turns, od_Turns, .func (PySem.W.ksFn "__init__" "Turns.__init__" (PySem.EX.iA "poly" ⟨87, 17, 87, 21⟩ ⟨87, 23, 87, 27⟩) (PySem.EX.iB "poly" ⟨88, 8, 88, 13⟩ ⟨88, 8, 88, 15⟩ ⟨88, 8, 88, 24⟩ ⟨88, 25, 88, 29⟩ ⟨88, 8, 88, 30⟩ ⟨88, 8, 88, 30⟩ ⟨89, 8, 89, 12⟩ ⟨89, 8, 89, 17⟩ ⟨89, 20, 89, 24⟩ ⟨89, 8, 89, 24⟩) (PySem.EX.iS "poly") .none .none dc_Turns pm_Turns an_Turns (.ref cd_Turns) ct_Turns cc_Turns), sl_Turns⟩)
    (hco_Turns : PySem.W.codeIn K (.ref cd_Turns) "Turns.__init__" = true)
    (hlc_Turns : K.lookup cd_Turns = some ⟨ccl_Turns, cdd_Turns, .fields vs_Turns, ccs_Turns⟩)
    (hvf_Turns : vs_Turns[2]? = some (.str fl_Turns tf_Turns))
    (hff_Turns : ((l.prog.main.file : Str) == fl_Turns) = true)
    (hlx_Turns : K.lookup cc_Turns = some ⟨cl_Turns, cld_Turns, .cell (some (.ref C_Turns)), csl_Turns⟩)
    (hk_Turns : PySem.W.keepIn K (.ref C_Turns) = true)
    (hve_Turns : PySem.W.subIn K (.ref C_Turns) (.type "ValueError") = some true)
    (hsu_Turns : PySem.W.ks_superIn K C_Turns C_Turns "__init__" = some (some (.builtin "ValueError.__init__")))
    (hse_Turns : PySem.W.mroIn K C_Turns (.ref C_Turns) = some true)
    (hx_Unknown : K.lookup C_Unknown = some (excClassObj nm_Unknown q_Unknown C_Unknown N_Unknown bs_Unknown bm_Unknown true sn_Unknown sub_Unknown ab_Unknown col_Unknown dd_Unknown m0_Unknown m1_Unknown m2_Unknown m3_Unknown m5_Unknown "ValueError.__new__"))
    (hv_Unknown : PySem.HandSPX.refsVE bm_Unknown = true)
    (hsa_Unknown : PySem.W.findIn K (.ref C_Unknown) "__setattr__" = some (some (.builtin "object.__setattr__")))
    (hi_Unknown : PySem.W.findIn K (.ref C_Unknown) "__init__" = some (some (.ref fI_Unknown)))
    (ht_Unknown : PySem.W.typeIn K (.ref fI_Unknown) = some (.type "function"))
    (hl_Unknown : K.lookup fI_Unknown = some ⟨oc_Unknown, od_Unknown, .func (PySem.W.ksFn "__init__" "Unknown.__init__" (PySem.EX.iA "name" ⟨51, 17, 51, 21⟩ ⟨51, 23, 51, 27⟩) (PySem.EX.iB "name" ⟨52, 8, 52, 13⟩ ⟨52, 8, 52, 15⟩ ⟨52, 8, 52, 24⟩ ⟨52, 25, 52, 29⟩ ⟨52, 8, 52, 30⟩ ⟨52, 8, 52, 30⟩ ⟨53, 8, 53, 12⟩ ⟨53, 8, 53, 17⟩ ⟨53, 20, 53, 24⟩ ⟨53, 8, 53, 24⟩) (PySem.EX.iS "name") .none .none dc_Unknown pm_Unknown an_Unknown (.ref cd_Unknown) ct_Unknown cc_Unknown), sl_Unknown⟩)
    (hco_Unknown : PySem.W.codeIn K (.ref cd_Unknown) "Unknown.__init__" = true)
    (hlc_Unknown : K.lookup cd_Unknown = some ⟨ccl_Unknown, cdd_Unknown, .fields vs_Unknown, ccs_Unknown⟩)
    (hvf_Unknown : vs_Unknown[2]? = some (.str fl_Unknown tf_Unknown))
    (hff_Unknown : ((l.prog.main.file : Str) == fl_Unknown) = true)
    (hlx_Unknown : K.lookup cc_Unknown = some ⟨cl_Unknown, cld_Unknown, .cell (some (.ref C_Unknown)), csl_Unknown⟩)
    (hk_Unknown : PySem.W.keepIn K (.ref C_Unknown) = true)
    (hve_Unknown : PySem.W.subIn K (.ref C_Unknown) (.type "ValueError") = some true)
    (hsu_Unknown : PySem.W.ks_superIn K C_Unknown C_Unknown "__init__" = some (some (.builtin "ValueError.__init__")))
    (hse_Unknown : PySem.W.mroIn K C_Unknown (.ref C_Unknown) = some true)
    (hx_NoDivisor : K.lookup C_NoDivisor = some (excClassObj nm_NoDivisor q_NoDivisor C_NoDivisor N_NoDivisor bs_NoDivisor bm_NoDivisor true sn_NoDivisor sub_NoDivisor ab_NoDivisor col_NoDivisor dd_NoDivisor m0_NoDivisor m1_NoDivisor m2_NoDivisor m3_NoDivisor m5_NoDivisor "ValueError.__new__"))
    (hv_NoDivisor : PySem.HandSPX.refsVE bm_NoDivisor = true)
    (hi_NoDivisor : PySem.W.findIn K (.ref C_NoDivisor) "__init__" = some (some (.builtin "ValueError.__init__")))
    (hk_NoDivisor : PySem.W.keepIn K (.ref C_NoDivisor) = true)
    (hx_NotTold : K.lookup C_NotTold = some (excClassObj nm_NotTold q_NotTold C_NotTold N_NotTold bs_NotTold bm_NotTold true sn_NotTold sub_NotTold ab_NotTold col_NotTold dd_NotTold m0_NotTold m1_NotTold m2_NotTold m3_NotTold m5_NotTold "ValueError.__new__"))
    (hv_NotTold : PySem.HandSPX.refsVE bm_NotTold = true)
    (hi_NotTold : PySem.W.findIn K (.ref C_NotTold) "__init__" = some (some (.builtin "ValueError.__init__")))
    (hk_NotTold : PySem.W.keepIn K (.ref C_NotTold) = true)
    (hx_NothingToRedo : K.lookup C_NothingToRedo = some (excClassObj nm_NothingToRedo q_NothingToRedo C_NothingToRedo N_NothingToRedo bs_NothingToRedo bm_NothingToRedo true sn_NothingToRedo sub_NothingToRedo ab_NothingToRedo col_NothingToRedo dd_NothingToRedo m0_NothingToRedo m1_NothingToRedo m2_NothingToRedo m3_NothingToRedo m5_NothingToRedo "ValueError.__new__"))
    (hv_NothingToRedo : PySem.HandSPX.refsVE bm_NothingToRedo = true)
    (hi_NothingToRedo : PySem.W.findIn K (.ref C_NothingToRedo) "__init__" = some (some (.builtin "ValueError.__init__")))
    (hk_NothingToRedo : PySem.W.keepIn K (.ref C_NothingToRedo) = true)
    (hx_NothingToUndo : K.lookup C_NothingToUndo = some (excClassObj nm_NothingToUndo q_NothingToUndo C_NothingToUndo N_NothingToUndo bs_NothingToUndo bm_NothingToUndo true sn_NothingToUndo sub_NothingToUndo ab_NothingToUndo col_NothingToUndo dd_NothingToUndo m0_NothingToUndo m1_NothingToUndo m2_NothingToUndo m3_NothingToUndo m5_NothingToUndo "ValueError.__new__"))
    (hv_NothingToUndo : PySem.HandSPX.refsVE bm_NothingToUndo = true)
    (hi_NothingToUndo : PySem.W.findIn K (.ref C_NothingToUndo) "__init__" = some (some (.builtin "ValueError.__init__")))
    (hk_NothingToUndo : PySem.W.keepIn K (.ref C_NothingToUndo) = true)
    (hkk : (([C_BadValue, C_NoDivisor, C_NotTold, C_TooHigh, C_TooMany, C_NotAFormula, C_NotANumber, C_NotAFormat, C_NotAName, C_OffGrid, C_Unknown, C_Taken, C_BadFile, C_BadPromise, C_Broken, C_NotMade, C_NothingToUndo, C_NothingToRedo, C_Turns] : List Addr).all fun a => ([C_BadValue, C_NoDivisor, C_NotTold, C_TooHigh, C_TooMany, C_NotAFormula, C_NotANumber, C_NotAFormat, C_NotAName, C_OffGrid, C_Unknown, C_Taken, C_BadFile, C_BadPromise, C_Broken, C_NotMade, C_NothingToUndo, C_NothingToRedo, C_Turns] : List Addr).all fun b => decide (PySem.W.kitOne K (.ref a) (.ref b) = some (decide (a = b)))) = true)
    (hkS : (([C_BadValue, C_NoDivisor, C_NotTold, C_TooHigh, C_TooMany, C_NotAFormula, C_NotANumber, C_NotAFormat, C_NotAName, C_OffGrid, C_Unknown, C_Taken, C_BadFile, C_BadPromise, C_Broken, C_NotMade, C_NothingToUndo, C_NothingToRedo, C_Turns] : List Addr).all fun a => decide (PySem.W.kitOne K (.ref a) (.ref C_SheetError) = some true)) = true)
    (hkV : (([C_BadValue, C_NoDivisor, C_NotTold, C_TooHigh, C_TooMany, C_NotAFormula, C_NotANumber, C_NotAFormat, C_NotAName, C_OffGrid, C_Unknown, C_Taken, C_BadFile, C_BadPromise, C_Broken, C_NotMade, C_NothingToUndo, C_NothingToRedo, C_Turns] : List Addr).all fun a => decide (PySem.W.kitOne K (.ref a) (.type "ValueError") = some true)) = true)
    (hnd : (([C_BadValue, C_NoDivisor, C_NotTold, C_TooHigh, C_TooMany, C_NotAFormula, C_NotANumber, C_NotAFormat, C_NotAName, C_OffGrid, C_Unknown, C_Taken, C_BadFile, C_BadPromise, C_Broken, C_NotMade, C_NothingToUndo, C_NothingToRedo, C_Turns] : List Addr)).Nodup)
    (hs_NotTold_SheetError : PySem.W.subIn K (.ref C_NotTold) (.ref C_SheetError) = some true)
    (hs_TooMany_SheetError : PySem.W.subIn K (.ref C_TooMany) (.ref C_SheetError) = some true)
    (hs_OffGrid_SheetError : PySem.W.subIn K (.ref C_OffGrid) (.ref C_SheetError) = some true)
    (hs_Unknown_SheetError : PySem.W.subIn K (.ref C_Unknown) (.ref C_SheetError) = some true)
    (hs_NothingToUndo_SheetError : PySem.W.subIn K (.ref C_NothingToUndo) (.ref C_SheetError) = some true)
    (hhn : PySem.W.specialIn K (.builtin "object.__class__") "__get__" = some (some (.builtin "getset_descriptor.__get__")))
    (hht : PySem.W.takesIn K (.builtin "object.__class__") = some true)
    (hha_BadValue : PySem.W.findIn K (.ref C_BadValue) "__class__" = some (some (.builtin "object.__class__")))
    (hhm_BadValue : PySem.W.mroIn K C_BadValue (.type "object") = some true)
    (hha_NoDivisor : PySem.W.findIn K (.ref C_NoDivisor) "__class__" = some (some (.builtin "object.__class__")))
    (hhm_NoDivisor : PySem.W.mroIn K C_NoDivisor (.type "object") = some true)
    (hha_NotTold : PySem.W.findIn K (.ref C_NotTold) "__class__" = some (some (.builtin "object.__class__")))
    (hhm_NotTold : PySem.W.mroIn K C_NotTold (.type "object") = some true)
    (hha_TooHigh : PySem.W.findIn K (.ref C_TooHigh) "__class__" = some (some (.builtin "object.__class__")))
    (hhm_TooHigh : PySem.W.mroIn K C_TooHigh (.type "object") = some true)
    (hha_TooMany : PySem.W.findIn K (.ref C_TooMany) "__class__" = some (some (.builtin "object.__class__")))
    (hhm_TooMany : PySem.W.mroIn K C_TooMany (.type "object") = some true)
    (hha_NotAFormula : PySem.W.findIn K (.ref C_NotAFormula) "__class__" = some (some (.builtin "object.__class__")))
    (hhm_NotAFormula : PySem.W.mroIn K C_NotAFormula (.type "object") = some true)
    (hha_NotANumber : PySem.W.findIn K (.ref C_NotANumber) "__class__" = some (some (.builtin "object.__class__")))
    (hhm_NotANumber : PySem.W.mroIn K C_NotANumber (.type "object") = some true)
    (hha_NotAFormat : PySem.W.findIn K (.ref C_NotAFormat) "__class__" = some (some (.builtin "object.__class__")))
    (hhm_NotAFormat : PySem.W.mroIn K C_NotAFormat (.type "object") = some true)
    (hha_NotAName : PySem.W.findIn K (.ref C_NotAName) "__class__" = some (some (.builtin "object.__class__")))
    (hhm_NotAName : PySem.W.mroIn K C_NotAName (.type "object") = some true)
    (hha_OffGrid : PySem.W.findIn K (.ref C_OffGrid) "__class__" = some (some (.builtin "object.__class__")))
    (hhm_OffGrid : PySem.W.mroIn K C_OffGrid (.type "object") = some true)
    (hha_Unknown : PySem.W.findIn K (.ref C_Unknown) "__class__" = some (some (.builtin "object.__class__")))
    (hhm_Unknown : PySem.W.mroIn K C_Unknown (.type "object") = some true)
    (hha_Taken : PySem.W.findIn K (.ref C_Taken) "__class__" = some (some (.builtin "object.__class__")))
    (hhm_Taken : PySem.W.mroIn K C_Taken (.type "object") = some true)
    (hha_BadFile : PySem.W.findIn K (.ref C_BadFile) "__class__" = some (some (.builtin "object.__class__")))
    (hhm_BadFile : PySem.W.mroIn K C_BadFile (.type "object") = some true)
    (hha_BadPromise : PySem.W.findIn K (.ref C_BadPromise) "__class__" = some (some (.builtin "object.__class__")))
    (hhm_BadPromise : PySem.W.mroIn K C_BadPromise (.type "object") = some true)
    (hha_Broken : PySem.W.findIn K (.ref C_Broken) "__class__" = some (some (.builtin "object.__class__")))
    (hhm_Broken : PySem.W.mroIn K C_Broken (.type "object") = some true)
    (hha_NotMade : PySem.W.findIn K (.ref C_NotMade) "__class__" = some (some (.builtin "object.__class__")))
    (hhm_NotMade : PySem.W.mroIn K C_NotMade (.type "object") = some true)
    (hha_NothingToUndo : PySem.W.findIn K (.ref C_NothingToUndo) "__class__" = some (some (.builtin "object.__class__")))
    (hhm_NothingToUndo : PySem.W.mroIn K C_NothingToUndo (.type "object") = some true)
    (hha_NothingToRedo : PySem.W.findIn K (.ref C_NothingToRedo) "__class__" = some (some (.builtin "object.__class__")))
    (hhm_NothingToRedo : PySem.W.mroIn K C_NothingToRedo (.type "object") = some true)
    (hha_Turns : PySem.W.findIn K (.ref C_Turns) "__class__" = some (some (.builtin "object.__class__")))
    (hhm_Turns : PySem.W.mroIn K C_Turns (.type "object") = some true)
    (ha_law_alone : PySem.W.nsIn K mainGlobals "_law_alone" = some (some (.ref f__law_alone)))
    (hl_law_alone : K.lookup f__law_alone = some ⟨oc_law_alone, od_law_alone, .func (PySem.W.fnOf "_law_alone" "_law_alone" (defArgs (top 25)) (defBody (top 25)) (defScope (top 25)) .none kV_law_alone dc_law_alone pm_law_alone an_law_alone cv_law_alone ct_law_alone), sl_law_alone⟩)
    (hc_law_alone : PySem.W.codeIn K cv_law_alone "_law_alone" = true)
    (hk_law_alone : PySem.W.keepIn K (.ref f__law_alone) = true)
    (ha_law_more : PySem.W.nsIn K mainGlobals "_law_more" = some (some (.ref f__law_more)))
    (hl_law_more : K.lookup f__law_more = some ⟨oc_law_more, od_law_more, .func (PySem.W.fnOf "_law_more" "_law_more" (defArgs (top 26)) (defBody (top 26)) (defScope (top 26)) .none kV_law_more dc_law_more pm_law_more an_law_more cv_law_more ct_law_more), sl_law_more⟩)
    (hc_law_more : PySem.W.codeIn K cv_law_more "_law_more" = true)
    (hk_law_more : PySem.W.keepIn K (.ref f__law_more) = true)
    (ha_law_draw : PySem.W.nsIn K mainGlobals "_law_draw" = some (some (.ref f__law_draw)))
    (hl_law_draw : K.lookup f__law_draw = some ⟨oc_law_draw, od_law_draw, .func (PySem.W.fnOf "_law_draw" "_law_draw" (defArgs (top 23)) (defBody (top 23)) (defScope (top 23)) .none kV_law_draw dc_law_draw pm_law_draw an_law_draw cv_law_draw ct_law_draw), sl_law_draw⟩)
    (hc_law_draw : PySem.W.codeIn K cv_law_draw "_law_draw" = true)
    (hk_law_draw : PySem.W.keepIn K (.ref f__law_draw) = true)
    (ha_law_pick : PySem.W.nsIn K mainGlobals "_law_pick" = some (some (.ref f__law_pick)))
    (hl_law_pick : K.lookup f__law_pick = some ⟨oc_law_pick, od_law_pick, .func (PySem.W.fnOf "_law_pick" "_law_pick" (defArgs (top 24)) (defBody (top 24)) (defScope (top 24)) .none kV_law_pick dc_law_pick pm_law_pick an_law_pick cv_law_pick ct_law_pick), sl_law_pick⟩)
    (hc_law_pick : PySem.W.codeIn K cv_law_pick "_law_pick" = true)
    (hk_law_pick : PySem.W.keepIn K (.ref f__law_pick) = true)
    (ha_law_kinds : PySem.W.nsIn K mainGlobals "_law_kinds" = some (some (.ref f__law_kinds)))
    (hl_law_kinds : K.lookup f__law_kinds = some ⟨oc_law_kinds, od_law_kinds, .func (PySem.W.fnOf "_law_kinds" "_law_kinds" (defArgs (top 27)) (defBody (top 27)) (defScope (top 27)) .none kV_law_kinds dc_law_kinds pm_law_kinds an_law_kinds cv_law_kinds ct_law_kinds), sl_law_kinds⟩)
    (hc_law_kinds : PySem.W.codeIn K cv_law_kinds "_law_kinds" = true)
    (hk_law_kinds : PySem.W.keepIn K (.ref f__law_kinds) = true)
    (ha_law_apart : PySem.W.nsIn K mainGlobals "_law_apart" = some (some (.ref f__law_apart)))
    (hl_law_apart : K.lookup f__law_apart = some ⟨oc_law_apart, od_law_apart, .func (PySem.W.fnOf "_law_apart" "_law_apart" (defArgs (top 28)) (defBody (top 28)) (defScope (top 28)) .none kV_law_apart dc_law_apart pm_law_apart an_law_apart cv_law_apart ct_law_apart), sl_law_apart⟩)
    (hc_law_apart : PySem.W.codeIn K cv_law_apart "_law_apart" = true)
    (hk_law_apart : PySem.W.keepIn K (.ref f__law_apart) = true)
    (ha_law_raise : PySem.W.nsIn K mainGlobals "_law_raise" = some (some (.ref f__law_raise)))
    (hl_law_raise : K.lookup f__law_raise = some ⟨oc_law_raise, od_law_raise, .func (PySem.W.fnOf "_law_raise" "_law_raise" (defArgs (top 29)) (defBody (top 29)) (defScope (top 29)) .none kV_law_raise dc_law_raise pm_law_raise an_law_raise cv_law_raise ct_law_raise), sl_law_raise⟩)
    (hc_law_raise : PySem.W.codeIn K cv_law_raise "_law_raise" = true)
    (hk_law_raise : PySem.W.keepIn K (.ref f__law_raise) = true)
    (ha_law_caught : PySem.W.nsIn K mainGlobals "_law_caught" = some (some (.ref f__law_caught)))
    (hl_law_caught : K.lookup f__law_caught = some ⟨oc_law_caught, od_law_caught, .func (PySem.W.fnOf "_law_caught" "_law_caught" (defArgs (top 30)) (defBody (top 30)) (defScope (top 30)) .none kV_law_caught dc_law_caught pm_law_caught an_law_caught cv_law_caught ct_law_caught), sl_law_caught⟩)
    (hc_law_caught : PySem.W.codeIn K cv_law_caught "_law_caught" = true)
    (hk_law_caught : PySem.W.keepIn K (.ref f__law_caught) = true)
    (halaw : PySem.W.nsIn K mainGlobals "law" = some (some (.ref f_law)))
    (hllaw : K.lookup f_law = some ⟨oclaw, odlaw, .func (PySem.W.fnOf "law" "law" (defArgs (top 31)) (defBody (top 31)) (defScope (top 31)) .none kVlaw dclaw pmlaw anlaw cvlaw ctlaw), sllaw⟩)
    (hclaw : PySem.W.codeIn K cvlaw "law" = true)
    (hklaw : PySem.W.keepIn K (.ref f_law) = true)
    (ha_law_pen : PySem.W.nsIn K mainGlobals "_law_pen" = some (some (.ref f__law_pen)))
    (hl_law_pen : K.lookup f__law_pen = some ⟨oc_law_pen, od_law_pen, .func (PySem.W.fnOf "_law_pen" "_law_pen" (defArgs (top 22)) (defBody (top 22)) (defScope (top 22)) .none kV_law_pen dc_law_pen pm_law_pen an_law_pen cv_law_pen ct_law_pen), sl_law_pen⟩)
    (hc_law_pen : PySem.W.codeIn K cv_law_pen "_law_pen" = true)
    (hk_law_pen : PySem.W.keepIn K (.ref f__law_pen) = true)
    : LamX.LawAtS l w K (L2.CX l.prog w) 4 63 "_law_script" mg fa h := by
  have e := hfa.symm.trans (PySem.W.mg_of X G halaw)
  cases e
  have E_BadFile : PySem.EY.ErrTxt l.prog K mg "BadFile" "line" "at" C_BadFile fI_BadFile :=
    { gC := PySem.W.mg_of X G ha_BadFile, cls := ⟨_, _, _, _, _, _, _, _, _, _, _, _, _, _, _, hx_BadFile, hv_BadFile⟩, sa := hsa_BadFile, ga := hga_BadFile, gg := hgg_BadFile, noN := hno_BadFile_line, noM := hno_BadFile_at, gself := by decide +kernel, gdb := by decide +kernel, gf := by decide +kernel, iC := hi_BadFile, tC := ht_BadFile, kC := hk_BadFile, exC := hex_BadFile, veC := hve_BadFile, tyC := hty_BadFile, hdC := hhd_BadFile, sup := hsu_BadFile, slf := hse_BadFile, opq := hopq, gS := PySem.W.mg_none_of X G hn_super, htop := hhtop, fself := by decide +kernel, fdb := by decide +kernel, ks := rfl, kc := rfl,
      fn := ⟨_, _, _, _, _, _, _, _, _, _, _, _, _, _, _, _, _, _, _, _, _, _, _, _, _, _, _, _, _, _, _, _, _, _, _, _, _, hl_BadFile, hco_BadFile, hlc_BadFile, hvf_BadFile, hff_BadFile, hlx_BadFile, ⟨fun _ _ _ => rfl, fun _ _ _ => rfl, fun _ _ _ => rfl, fun _ _ _ => rfl⟩, fun env _ => ⟨_, rfl⟩⟩ }
  have E_BadPromise : PySem.EX.ErrTxt l.prog K mg "BadPromise" "promise" C_BadPromise fI_BadPromise :=
    { gC := PySem.W.mg_of X G ha_BadPromise, cls := ⟨_, _, _, _, _, _, _, _, _, _, _, _, _, _, _, hx_BadPromise, hv_BadPromise⟩, sa := hsa_BadPromise, ga := hga_BadPromise, gg := hgg_BadPromise, noN := hno_BadPromise_promise, iC := hi_BadPromise, tC := ht_BadPromise, kC := hk_BadPromise, exC := hex_BadPromise, veC := hve_BadPromise, tyC := hty_BadPromise, hdC := hhd_BadPromise, sup := hsu_BadPromise, slf := hse_BadPromise, opq := hopq, gS := PySem.W.mg_none_of X G hn_super, htop := hhtop, fself := by decide +kernel, fdb := by decide +kernel, ks := rfl, kc := rfl,
      fn := ⟨_, _, _, _, _, _, _, _, _, _, _, _, _, _, _, _, _, _, _, _, _, _, _, _, _, _, _, _, _, _, _, hl_BadPromise, hco_BadPromise, hlc_BadPromise, hvf_BadPromise, hff_BadPromise, hlx_BadPromise, fun _ _ => rfl, fun _ _ => rfl, fun env _ => ⟨_, rfl⟩⟩ }
  have E_BadValue : PySem.EX.ErrTxt l.prog K mg "BadValue" "value" C_BadValue fI_BadValue :=
    { gC := PySem.W.mg_of X G ha_BadValue, cls := ⟨_, _, _, _, _, _, _, _, _, _, _, _, _, _, _, hx_BadValue, hv_BadValue⟩, sa := hsa_BadValue, ga := hga_BadValue, gg := hgg_BadValue, noN := hno_BadValue_value, iC := hi_BadValue, tC := ht_BadValue, kC := hk_BadValue, exC := hex_BadValue, veC := hve_BadValue, tyC := hty_BadValue, hdC := hhd_BadValue, sup := hsu_BadValue, slf := hse_BadValue, opq := hopq, gS := PySem.W.mg_none_of X G hn_super, htop := hhtop, fself := by decide +kernel, fdb := by decide +kernel, ks := rfl, kc := rfl,
      fn := ⟨_, _, _, _, _, _, _, _, _, _, _, _, _, _, _, _, _, _, _, _, _, _, _, _, _, _, _, _, _, _, _, hl_BadValue, hco_BadValue, hlc_BadValue, hvf_BadValue, hff_BadValue, hlx_BadValue, fun _ _ => rfl, fun _ _ => rfl, fun env _ => ⟨_, rfl⟩⟩ }
  have E_Broken : PySem.EY.ErrTxt l.prog K mg "Broken" "promise" "where" C_Broken fI_Broken :=
    { gC := PySem.W.mg_of X G ha_Broken, cls := ⟨_, _, _, _, _, _, _, _, _, _, _, _, _, _, _, hx_Broken, hv_Broken⟩, sa := hsa_Broken, ga := hga_Broken, gg := hgg_Broken, noN := hno_Broken_promise, noM := hno_Broken_where, gself := by decide +kernel, gdb := by decide +kernel, gf := by decide +kernel, iC := hi_Broken, tC := ht_Broken, kC := hk_Broken, exC := hex_Broken, veC := hve_Broken, tyC := hty_Broken, hdC := hhd_Broken, sup := hsu_Broken, slf := hse_Broken, opq := hopq, gS := PySem.W.mg_none_of X G hn_super, htop := hhtop, fself := by decide +kernel, fdb := by decide +kernel, ks := rfl, kc := rfl,
      fn := ⟨_, _, _, _, _, _, _, _, _, _, _, _, _, _, _, _, _, _, _, _, _, _, _, _, _, _, _, _, _, _, _, _, _, _, _, _, _, hl_Broken, hco_Broken, hlc_Broken, hvf_Broken, hff_Broken, hlx_Broken, ⟨fun _ _ _ => rfl, fun _ _ _ => rfl, fun _ _ _ => rfl, fun _ _ _ => rfl⟩, fun env _ => ⟨_, rfl⟩⟩ }
  have E_NotAFormat : PySem.EX.ErrTxt l.prog K mg "NotAFormat" "at" C_NotAFormat fI_NotAFormat :=
    { gC := PySem.W.mg_of X G ha_NotAFormat, cls := ⟨_, _, _, _, _, _, _, _, _, _, _, _, _, _, _, hx_NotAFormat, hv_NotAFormat⟩, sa := hsa_NotAFormat, ga := hga_NotAFormat, gg := hgg_NotAFormat, noN := hno_NotAFormat_at, iC := hi_NotAFormat, tC := ht_NotAFormat, kC := hk_NotAFormat, exC := hex_NotAFormat, veC := hve_NotAFormat, tyC := hty_NotAFormat, hdC := hhd_NotAFormat, sup := hsu_NotAFormat, slf := hse_NotAFormat, opq := hopq, gS := PySem.W.mg_none_of X G hn_super, htop := hhtop, fself := by decide +kernel, fdb := by decide +kernel, ks := rfl, kc := rfl,
      fn := ⟨_, _, _, _, _, _, _, _, _, _, _, _, _, _, _, _, _, _, _, _, _, _, _, _, _, _, _, _, _, _, _, hl_NotAFormat, hco_NotAFormat, hlc_NotAFormat, hvf_NotAFormat, hff_NotAFormat, hlx_NotAFormat, fun _ _ => rfl, fun _ _ => rfl, fun env _ => ⟨_, rfl⟩⟩ }
  have E_NotAFormula : PySem.EX.ErrTxt l.prog K mg "NotAFormula" "at" C_NotAFormula fI_NotAFormula :=
    { gC := PySem.W.mg_of X G ha_NotAFormula, cls := ⟨_, _, _, _, _, _, _, _, _, _, _, _, _, _, _, hx_NotAFormula, hv_NotAFormula⟩, sa := hsa_NotAFormula, ga := hga_NotAFormula, gg := hgg_NotAFormula, noN := hno_NotAFormula_at, iC := hi_NotAFormula, tC := ht_NotAFormula, kC := hk_NotAFormula, exC := hex_NotAFormula, veC := hve_NotAFormula, tyC := hty_NotAFormula, hdC := hhd_NotAFormula, sup := hsu_NotAFormula, slf := hse_NotAFormula, opq := hopq, gS := PySem.W.mg_none_of X G hn_super, htop := hhtop, fself := by decide +kernel, fdb := by decide +kernel, ks := rfl, kc := rfl,
      fn := ⟨_, _, _, _, _, _, _, _, _, _, _, _, _, _, _, _, _, _, _, _, _, _, _, _, _, _, _, _, _, _, _, hl_NotAFormula, hco_NotAFormula, hlc_NotAFormula, hvf_NotAFormula, hff_NotAFormula, hlx_NotAFormula, fun _ _ => rfl, fun _ _ => rfl, fun env _ => ⟨_, rfl⟩⟩ }
  have E_NotAName : PySem.EX.ErrTxt l.prog K mg "NotAName" "name" C_NotAName fI_NotAName :=
    { gC := PySem.W.mg_of X G ha_NotAName, cls := ⟨_, _, _, _, _, _, _, _, _, _, _, _, _, _, _, hx_NotAName, hv_NotAName⟩, sa := hsa_NotAName, ga := hga_NotAName, gg := hgg_NotAName, noN := hno_NotAName_name, iC := hi_NotAName, tC := ht_NotAName, kC := hk_NotAName, exC := hex_NotAName, veC := hve_NotAName, tyC := hty_NotAName, hdC := hhd_NotAName, sup := hsu_NotAName, slf := hse_NotAName, opq := hopq, gS := PySem.W.mg_none_of X G hn_super, htop := hhtop, fself := by decide +kernel, fdb := by decide +kernel, ks := rfl, kc := rfl,
      fn := ⟨_, _, _, _, _, _, _, _, _, _, _, _, _, _, _, _, _, _, _, _, _, _, _, _, _, _, _, _, _, _, _, hl_NotAName, hco_NotAName, hlc_NotAName, hvf_NotAName, hff_NotAName, hlx_NotAName, fun _ _ => rfl, fun _ _ => rfl, fun env _ => ⟨_, rfl⟩⟩ }
  have E_NotANumber : PySem.EX.ErrTxt l.prog K mg "NotANumber" "at" C_NotANumber fI_NotANumber :=
    { gC := PySem.W.mg_of X G ha_NotANumber, cls := ⟨_, _, _, _, _, _, _, _, _, _, _, _, _, _, _, hx_NotANumber, hv_NotANumber⟩, sa := hsa_NotANumber, ga := hga_NotANumber, gg := hgg_NotANumber, noN := hno_NotANumber_at, iC := hi_NotANumber, tC := ht_NotANumber, kC := hk_NotANumber, exC := hex_NotANumber, veC := hve_NotANumber, tyC := hty_NotANumber, hdC := hhd_NotANumber, sup := hsu_NotANumber, slf := hse_NotANumber, opq := hopq, gS := PySem.W.mg_none_of X G hn_super, htop := hhtop, fself := by decide +kernel, fdb := by decide +kernel, ks := rfl, kc := rfl,
      fn := ⟨_, _, _, _, _, _, _, _, _, _, _, _, _, _, _, _, _, _, _, _, _, _, _, _, _, _, _, _, _, _, _, hl_NotANumber, hco_NotANumber, hlc_NotANumber, hvf_NotANumber, hff_NotANumber, hlx_NotANumber, fun _ _ => rfl, fun _ _ => rfl, fun env _ => ⟨_, rfl⟩⟩ }
  have E_NotMade : PySem.EX.ErrTxt l.prog K mg "NotMade" "promise" C_NotMade fI_NotMade :=
    { gC := PySem.W.mg_of X G ha_NotMade, cls := ⟨_, _, _, _, _, _, _, _, _, _, _, _, _, _, _, hx_NotMade, hv_NotMade⟩, sa := hsa_NotMade, ga := hga_NotMade, gg := hgg_NotMade, noN := hno_NotMade_promise, iC := hi_NotMade, tC := ht_NotMade, kC := hk_NotMade, exC := hex_NotMade, veC := hve_NotMade, tyC := hty_NotMade, hdC := hhd_NotMade, sup := hsu_NotMade, slf := hse_NotMade, opq := hopq, gS := PySem.W.mg_none_of X G hn_super, htop := hhtop, fself := by decide +kernel, fdb := by decide +kernel, ks := rfl, kc := rfl,
      fn := ⟨_, _, _, _, _, _, _, _, _, _, _, _, _, _, _, _, _, _, _, _, _, _, _, _, _, _, _, _, _, _, _, hl_NotMade, hco_NotMade, hlc_NotMade, hvf_NotMade, hff_NotMade, hlx_NotMade, fun _ _ => rfl, fun _ _ => rfl, fun env _ => ⟨_, rfl⟩⟩ }
  have E_OffGrid : PySem.EY.ErrTxt l.prog K mg "OffGrid" "row" "column" C_OffGrid fI_OffGrid :=
    { gC := PySem.W.mg_of X G ha_OffGrid, cls := ⟨_, _, _, _, _, _, _, _, _, _, _, _, _, _, _, hx_OffGrid, hv_OffGrid⟩, sa := hsa_OffGrid, ga := hga_OffGrid, gg := hgg_OffGrid, noN := hno_OffGrid_row, noM := hno_OffGrid_column, gself := by decide +kernel, gdb := by decide +kernel, gf := by decide +kernel, iC := hi_OffGrid, tC := ht_OffGrid, kC := hk_OffGrid, exC := hex_OffGrid, veC := hve_OffGrid, tyC := hty_OffGrid, hdC := hhd_OffGrid, sup := hsu_OffGrid, slf := hse_OffGrid, opq := hopq, gS := PySem.W.mg_none_of X G hn_super, htop := hhtop, fself := by decide +kernel, fdb := by decide +kernel, ks := rfl, kc := rfl,
      fn := ⟨_, _, _, _, _, _, _, _, _, _, _, _, _, _, _, _, _, _, _, _, _, _, _, _, _, _, _, _, _, _, _, _, _, _, _, _, _, hl_OffGrid, hco_OffGrid, hlc_OffGrid, hvf_OffGrid, hff_OffGrid, hlx_OffGrid, ⟨fun _ _ _ => rfl, fun _ _ _ => rfl, fun _ _ _ => rfl, fun _ _ _ => rfl⟩, fun env _ => ⟨_, rfl⟩⟩ }
  have E_Taken : PySem.EX.ErrTxt l.prog K mg "Taken" "name" C_Taken fI_Taken :=
    { gC := PySem.W.mg_of X G ha_Taken, cls := ⟨_, _, _, _, _, _, _, _, _, _, _, _, _, _, _, hx_Taken, hv_Taken⟩, sa := hsa_Taken, ga := hga_Taken, gg := hgg_Taken, noN := hno_Taken_name, iC := hi_Taken, tC := ht_Taken, kC := hk_Taken, exC := hex_Taken, veC := hve_Taken, tyC := hty_Taken, hdC := hhd_Taken, sup := hsu_Taken, slf := hse_Taken, opq := hopq, gS := PySem.W.mg_none_of X G hn_super, htop := hhtop, fself := by decide +kernel, fdb := by decide +kernel, ks := rfl, kc := rfl,
      fn := ⟨_, _, _, _, _, _, _, _, _, _, _, _, _, _, _, _, _, _, _, _, _, _, _, _, _, _, _, _, _, _, _, hl_Taken, hco_Taken, hlc_Taken, hvf_Taken, hff_Taken, hlx_Taken, fun _ _ => rfl, fun _ _ => rfl, fun env _ => ⟨_, rfl⟩⟩ }
  have E_TooHigh : PySem.EX.ErrTxt l.prog K mg "TooHigh" "most" C_TooHigh fI_TooHigh :=
    { gC := PySem.W.mg_of X G ha_TooHigh, cls := ⟨_, _, _, _, _, _, _, _, _, _, _, _, _, _, _, hx_TooHigh, hv_TooHigh⟩, sa := hsa_TooHigh, ga := hga_TooHigh, gg := hgg_TooHigh, noN := hno_TooHigh_most, iC := hi_TooHigh, tC := ht_TooHigh, kC := hk_TooHigh, exC := hex_TooHigh, veC := hve_TooHigh, tyC := hty_TooHigh, hdC := hhd_TooHigh, sup := hsu_TooHigh, slf := hse_TooHigh, opq := hopq, gS := PySem.W.mg_none_of X G hn_super, htop := hhtop, fself := by decide +kernel, fdb := by decide +kernel, ks := rfl, kc := rfl,
      fn := ⟨_, _, _, _, _, _, _, _, _, _, _, _, _, _, _, _, _, _, _, _, _, _, _, _, _, _, _, _, _, _, _, hl_TooHigh, hco_TooHigh, hlc_TooHigh, hvf_TooHigh, hff_TooHigh, hlx_TooHigh, fun _ _ => rfl, fun _ _ => rfl, fun env _ => ⟨_, rfl⟩⟩ }
  have E_TooMany : PySem.EX.ErrTxt l.prog K mg "TooMany" "most" C_TooMany fI_TooMany :=
    { gC := PySem.W.mg_of X G ha_TooMany, cls := ⟨_, _, _, _, _, _, _, _, _, _, _, _, _, _, _, hx_TooMany, hv_TooMany⟩, sa := hsa_TooMany, ga := hga_TooMany, gg := hgg_TooMany, noN := hno_TooMany_most, iC := hi_TooMany, tC := ht_TooMany, kC := hk_TooMany, exC := hex_TooMany, veC := hve_TooMany, tyC := hty_TooMany, hdC := hhd_TooMany, sup := hsu_TooMany, slf := hse_TooMany, opq := hopq, gS := PySem.W.mg_none_of X G hn_super, htop := hhtop, fself := by decide +kernel, fdb := by decide +kernel, ks := rfl, kc := rfl,
      fn := ⟨_, _, _, _, _, _, _, _, _, _, _, _, _, _, _, _, _, _, _, _, _, _, _, _, _, _, _, _, _, _, _, hl_TooMany, hco_TooMany, hlc_TooMany, hvf_TooMany, hff_TooMany, hlx_TooMany, fun _ _ => rfl, fun _ _ => rfl, fun env _ => ⟨_, rfl⟩⟩ }
  have E_Turns : PySem.EX.ErrTxt l.prog K mg "Turns" "poly" C_Turns fI_Turns :=
    { gC := PySem.W.mg_of X G ha_Turns, cls := ⟨_, _, _, _, _, _, _, _, _, _, _, _, _, _, _, hx_Turns, hv_Turns⟩, sa := hsa_Turns, ga := hga_Turns, gg := hgg_Turns, noN := hno_Turns_poly, iC := hi_Turns, tC := ht_Turns, kC := hk_Turns, exC := hex_Turns, veC := hve_Turns, tyC := hty_Turns, hdC := hhd_Turns, sup := hsu_Turns, slf := hse_Turns, opq := hopq, gS := PySem.W.mg_none_of X G hn_super, htop := hhtop, fself := by decide +kernel, fdb := by decide +kernel, ks := rfl, kc := rfl,
      fn := ⟨_, _, _, _, _, _, _, _, _, _, _, _, _, _, _, _, _, _, _, _, _, _, _, _, _, _, _, _, _, _, _, hl_Turns, hco_Turns, hlc_Turns, hvf_Turns, hff_Turns, hlx_Turns, fun _ _ => rfl, fun _ _ => rfl, fun env _ => ⟨_, rfl⟩⟩ }
  have E_Unknown : PySem.EX.ErrTxt l.prog K mg "Unknown" "name" C_Unknown fI_Unknown :=
    { gC := PySem.W.mg_of X G ha_Unknown, cls := ⟨_, _, _, _, _, _, _, _, _, _, _, _, _, _, _, hx_Unknown, hv_Unknown⟩, sa := hsa_Unknown, ga := hga_Unknown, gg := hgg_Unknown, noN := hno_Unknown_name, iC := hi_Unknown, tC := ht_Unknown, kC := hk_Unknown, exC := hex_Unknown, veC := hve_Unknown, tyC := hty_Unknown, hdC := hhd_Unknown, sup := hsu_Unknown, slf := hse_Unknown, opq := hopq, gS := PySem.W.mg_none_of X G hn_super, htop := hhtop, fself := by decide +kernel, fdb := by decide +kernel, ks := rfl, kc := rfl,
      fn := ⟨_, _, _, _, _, _, _, _, _, _, _, _, _, _, _, _, _, _, _, _, _, _, _, _, _, _, _, _, _, _, _, hl_Unknown, hco_Unknown, hlc_Unknown, hvf_Unknown, hff_Unknown, hlx_Unknown, fun _ _ => rfl, fun _ _ => rfl, fun env _ => ⟨_, rfl⟩⟩ }
  let A : Ad := { BadFile := C_BadFile, BadPromise := C_BadPromise, BadValue := C_BadValue, Broken := C_Broken, NoDivisor := C_NoDivisor, NotAFormat := C_NotAFormat, NotAFormula := C_NotAFormula, NotAName := C_NotAName, NotANumber := C_NotANumber, NotMade := C_NotMade, NotTold := C_NotTold, NothingToRedo := C_NothingToRedo, NothingToUndo := C_NothingToUndo, OffGrid := C_OffGrid, SheetError := C_SheetError, Taken := C_Taken, TooHigh := C_TooHigh, TooMany := C_TooMany, Turns := C_Turns, Unknown := C_Unknown, i_BadFile := fI_BadFile, i_BadPromise := fI_BadPromise, i_BadValue := fI_BadValue, i_Broken := fI_Broken, i_NotAFormat := fI_NotAFormat, i_NotAFormula := fI_NotAFormula, i_NotAName := fI_NotAName, i_NotANumber := fI_NotANumber, i_NotMade := fI_NotMade, i_OffGrid := fI_OffGrid, i_Taken := fI_Taken, i_TooHigh := fI_TooHigh, i_TooMany := fI_TooMany, i_Turns := fI_Turns, i_Unknown := fI_Unknown }
  have F_law_alone := fun_mk (st := top 25) hl_law_alone hc_law_alone hk_law_alone
  have D_law_alone : DefT K mg "_law_alone" (top 25) ["_law_mine"] := ⟨f__law_alone, _, F_law_alone, PySem.W.mg_of X G ha_law_alone, hk_law_alone, F_law_alone.binds (ps := ["_law_mine"]) fun _ _ _ _ _ _ us hl => match us, hl with | [_], _ => rfl⟩
  have F_law_more := fun_mk (st := top 26) hl_law_more hc_law_more hk_law_more
  have D_law_more : DefT K mg "_law_more" (top 26) ["_law_mine", "_law_yours"] := ⟨f__law_more, _, F_law_more, PySem.W.mg_of X G ha_law_more, hk_law_more, F_law_more.binds (ps := ["_law_mine", "_law_yours"]) fun _ _ _ _ _ _ us hl => match us, hl with | [_, _], _ => rfl⟩
  have F_law_draw := fun_mk (st := top 23) hl_law_draw hc_law_draw hk_law_draw
  have D_law_draw : DefT K mg "_law_draw" (top 23) ["_law_pen_here", "_law_many"] := ⟨f__law_draw, _, F_law_draw, PySem.W.mg_of X G ha_law_draw, hk_law_draw, F_law_draw.binds (ps := ["_law_pen_here", "_law_many"]) fun _ _ _ _ _ _ us hl => match us, hl with | [_, _], _ => rfl⟩
  have F_law_pick := fun_mk (st := top 24) hl_law_pick hc_law_pick hk_law_pick
  have D_law_pick : DefT K mg "_law_pick" (top 24) ["_law_pen_here", "_law_items"] := ⟨f__law_pick, _, F_law_pick, PySem.W.mg_of X G ha_law_pick, hk_law_pick, F_law_pick.binds (ps := ["_law_pen_here", "_law_items"]) fun _ _ _ _ _ _ us hl => match us, hl with | [_, _], _ => rfl⟩
  have F_law_kinds := fun_mk (st := top 27) hl_law_kinds hc_law_kinds hk_law_kinds
  have D_law_kinds : DefT K mg "_law_kinds" (top 27) ["_law_error"] := ⟨f__law_kinds, _, F_law_kinds, PySem.W.mg_of X G ha_law_kinds, hk_law_kinds, F_law_kinds.binds (ps := ["_law_error"]) fun _ _ _ _ _ _ us hl => match us, hl with | [_], _ => rfl⟩
  have F_law_apart := fun_mk (st := top 28) hl_law_apart hc_law_apart hk_law_apart
  have D_law_apart : DefT K mg "_law_apart" (top 28) ["_law_mine", "_law_yours"] := ⟨f__law_apart, _, F_law_apart, PySem.W.mg_of X G ha_law_apart, hk_law_apart, F_law_apart.binds (ps := ["_law_mine", "_law_yours"]) fun _ _ _ _ _ _ us hl => match us, hl with | [_, _], _ => rfl⟩
  have F_law_raise := fun_mk (st := top 29) hl_law_raise hc_law_raise hk_law_raise
  have D_law_raise : DefT K mg "_law_raise" (top 29) ["_law_which", "_law_mine"] := ⟨f__law_raise, _, F_law_raise, PySem.W.mg_of X G ha_law_raise, hk_law_raise, F_law_raise.binds (ps := ["_law_which", "_law_mine"]) fun _ _ _ _ _ _ us hl => match us, hl with | [_, _], _ => rfl⟩
  have F_law_caught := fun_mk (st := top 30) hl_law_caught hc_law_caught hk_law_caught
  have D_law_caught : DefT K mg "_law_caught" (top 30) ["_law_which", "_law_mine"] := ⟨f__law_caught, _, F_law_caught, PySem.W.mg_of X G ha_law_caught, hk_law_caught, F_law_caught.binds (ps := ["_law_which", "_law_mine"]) fun _ _ _ _ _ _ us hl => match us, hl with | [_, _], _ => rfl⟩
  have Flaw := fun_mk (st := top 31) hllaw hclaw hklaw
  have F_law_pen := fun_mk (st := top 22) hl_law_pen hc_law_pen hk_law_pen
  have B_law_pen : Binds K _ ["_law_script"] [] := F_law_pen.binds (ps := ["_law_script"]) fun _ _ _ _ _ _ us hl => match us, hl with | [_], _ => rfl
  have T : Txt l.prog K mg A :=
    { n_ValueError := PySem.W.mg_none_of X G hn_ValueError,
      n_all := PySem.W.mg_none_of X G hn_all,
      n_bool := PySem.W.mg_none_of X G hn_bool,
      n_int := PySem.W.mg_none_of X G hn_int,
      n_isinstance := PySem.W.mg_none_of X G hn_isinstance,
      n_len := PySem.W.mg_none_of X G hn_len,
      n_min := PySem.W.mg_none_of X G hn_min,
      n_range := PySem.W.mg_none_of X G hn_range,
      c_BadFile := PySem.W.mg_of X G ha_BadFile,
      c_BadPromise := PySem.W.mg_of X G ha_BadPromise,
      c_BadValue := PySem.W.mg_of X G ha_BadValue,
      c_Broken := PySem.W.mg_of X G ha_Broken,
      c_NoDivisor := PySem.W.mg_of X G ha_NoDivisor,
      c_NotAFormat := PySem.W.mg_of X G ha_NotAFormat,
      c_NotAFormula := PySem.W.mg_of X G ha_NotAFormula,
      c_NotAName := PySem.W.mg_of X G ha_NotAName,
      c_NotANumber := PySem.W.mg_of X G ha_NotANumber,
      c_NotMade := PySem.W.mg_of X G ha_NotMade,
      c_NotTold := PySem.W.mg_of X G ha_NotTold,
      c_NothingToRedo := PySem.W.mg_of X G ha_NothingToRedo,
      c_NothingToUndo := PySem.W.mg_of X G ha_NothingToUndo,
      c_OffGrid := PySem.W.mg_of X G ha_OffGrid,
      c_SheetError := PySem.W.mg_of X G ha_SheetError,
      c_Taken := PySem.W.mg_of X G ha_Taken,
      c_TooHigh := PySem.W.mg_of X G ha_TooHigh,
      c_TooMany := PySem.W.mg_of X G ha_TooMany,
      c_Turns := PySem.W.mg_of X G ha_Turns,
      c_Unknown := PySem.W.mg_of X G ha_Unknown,
      e_BadFile := E_BadFile,
      e_BadPromise := E_BadPromise,
      e_BadValue := E_BadValue,
      e_Broken := E_Broken,
      e_NotAFormat := E_NotAFormat,
      e_NotAFormula := E_NotAFormula,
      e_NotAName := E_NotAName,
      e_NotANumber := E_NotANumber,
      e_NotMade := E_NotMade,
      e_OffGrid := E_OffGrid,
      e_Taken := E_Taken,
      e_TooHigh := E_TooHigh,
      e_TooMany := E_TooMany,
      e_Turns := E_Turns,
      e_Unknown := E_Unknown,
      z_NoDivisor := ⟨PySem.W.mg_of X G ha_NoDivisor, ⟨_, _, _, _, _, _, _, _, _, _, _, _, _, _, _, hx_NoDivisor, hv_NoDivisor⟩, hi_NoDivisor, hk_NoDivisor, hex_NoDivisor, hty_NoDivisor⟩,
      z_NotTold := ⟨PySem.W.mg_of X G ha_NotTold, ⟨_, _, _, _, _, _, _, _, _, _, _, _, _, _, _, hx_NotTold, hv_NotTold⟩, hi_NotTold, hk_NotTold, hex_NotTold, hty_NotTold⟩,
      z_NothingToRedo := ⟨PySem.W.mg_of X G ha_NothingToRedo, ⟨_, _, _, _, _, _, _, _, _, _, _, _, _, _, _, hx_NothingToRedo, hv_NothingToRedo⟩, hi_NothingToRedo, hk_NothingToRedo, hex_NothingToRedo, hty_NothingToRedo⟩,
      z_NothingToUndo := ⟨PySem.W.mg_of X G ha_NothingToUndo, ⟨_, _, _, _, _, _, _, _, _, _, _, _, _, _, _, hx_NothingToUndo, hv_NothingToUndo⟩, hi_NothingToUndo, hk_NothingToUndo, hex_NothingToUndo, hty_NothingToUndo⟩,
      ef_at := fun C hC => by
        simp only [List.mem_cons, List.not_mem_nil, or_false] at hC
        rcases hC with rfl | rfl | rfl | rfl
        · exact ⟨⟨hga_NotAFormula, hgg_NotAFormula, hex_NotAFormula, hhd_NotAFormula⟩, hno_NotAFormula_at⟩
        · exact ⟨⟨hga_NotANumber, hgg_NotANumber, hex_NotANumber, hhd_NotANumber⟩, hno_NotANumber_at⟩
        · exact ⟨⟨hga_NotAFormat, hgg_NotAFormat, hex_NotAFormat, hhd_NotAFormat⟩, hno_NotAFormat_at⟩
        · exact ⟨⟨hga_BadFile, hgg_BadFile, hex_BadFile, hhd_BadFile⟩, hno_BadFile_at⟩,
      ef_column := fun C hC => by
        simp only [List.mem_cons, List.not_mem_nil, or_false] at hC
        rcases hC with rfl
        · exact ⟨⟨hga_OffGrid, hgg_OffGrid, hex_OffGrid, hhd_OffGrid⟩, hno_OffGrid_column⟩,
      ef_line := fun C hC => by
        simp only [List.mem_cons, List.not_mem_nil, or_false] at hC
        rcases hC with rfl
        · exact ⟨⟨hga_BadFile, hgg_BadFile, hex_BadFile, hhd_BadFile⟩, hno_BadFile_line⟩,
      ef_most := fun C hC => by
        simp only [List.mem_cons, List.not_mem_nil, or_false] at hC
        rcases hC with rfl | rfl
        · exact ⟨⟨hga_TooHigh, hgg_TooHigh, hex_TooHigh, hhd_TooHigh⟩, hno_TooHigh_most⟩
        · exact ⟨⟨hga_TooMany, hgg_TooMany, hex_TooMany, hhd_TooMany⟩, hno_TooMany_most⟩,
      ef_name := fun C hC => by
        simp only [List.mem_cons, List.not_mem_nil, or_false] at hC
        rcases hC with rfl | rfl | rfl
        · exact ⟨⟨hga_NotAName, hgg_NotAName, hex_NotAName, hhd_NotAName⟩, hno_NotAName_name⟩
        · exact ⟨⟨hga_Unknown, hgg_Unknown, hex_Unknown, hhd_Unknown⟩, hno_Unknown_name⟩
        · exact ⟨⟨hga_Taken, hgg_Taken, hex_Taken, hhd_Taken⟩, hno_Taken_name⟩,
      ef_poly := fun C hC => by
        simp only [List.mem_cons, List.not_mem_nil, or_false] at hC
        rcases hC with rfl
        · exact ⟨⟨hga_Turns, hgg_Turns, hex_Turns, hhd_Turns⟩, hno_Turns_poly⟩,
      ef_promise := fun C hC => by
        simp only [List.mem_cons, List.not_mem_nil, or_false] at hC
        rcases hC with rfl | rfl | rfl
        · exact ⟨⟨hga_BadPromise, hgg_BadPromise, hex_BadPromise, hhd_BadPromise⟩, hno_BadPromise_promise⟩
        · exact ⟨⟨hga_Broken, hgg_Broken, hex_Broken, hhd_Broken⟩, hno_Broken_promise⟩
        · exact ⟨⟨hga_NotMade, hgg_NotMade, hex_NotMade, hhd_NotMade⟩, hno_NotMade_promise⟩,
      ef_row := fun C hC => by
        simp only [List.mem_cons, List.not_mem_nil, or_false] at hC
        rcases hC with rfl
        · exact ⟨⟨hga_OffGrid, hgg_OffGrid, hex_OffGrid, hhd_OffGrid⟩, hno_OffGrid_row⟩,
      ef_value := fun C hC => by
        simp only [List.mem_cons, List.not_mem_nil, or_false] at hC
        rcases hC with rfl
        · exact ⟨⟨hga_BadValue, hgg_BadValue, hex_BadValue, hhd_BadValue⟩, hno_BadValue_value⟩,
      ef_where := fun C hC => by
        simp only [List.mem_cons, List.not_mem_nil, or_false] at hC
        rcases hC with rfl
        · exact ⟨⟨hga_Broken, hgg_Broken, hex_Broken, hhd_Broken⟩, hno_Broken_where⟩,
      kk := fun a ha b hb => of_decide_eq_true (List.all_eq_true.mp (List.all_eq_true.mp hkk a ha) b hb),
      kS := fun a ha => of_decide_eq_true (List.all_eq_true.mp hkS a ha),
      kV := fun a ha => of_decide_eq_true (List.all_eq_true.mp hkV a ha),
      nd := hnd,
      xc := fun a ha => by
        simp only [errs, List.mem_cons, List.not_mem_nil, or_false] at ha
        rcases ha with rfl | rfl | rfl | rfl | rfl | rfl | rfl | rfl | rfl | rfl | rfl | rfl | rfl | rfl | rfl | rfl | rfl | rfl | rfl
        · exact ⟨hga_BadValue, hgg_BadValue, hex_BadValue, hhd_BadValue, hha_BadValue, hhn, hht, hhm_BadValue⟩
        · exact ⟨hga_NoDivisor, hgg_NoDivisor, hex_NoDivisor, hhd_NoDivisor, hha_NoDivisor, hhn, hht, hhm_NoDivisor⟩
        · exact ⟨hga_NotTold, hgg_NotTold, hex_NotTold, hhd_NotTold, hha_NotTold, hhn, hht, hhm_NotTold⟩
        · exact ⟨hga_TooHigh, hgg_TooHigh, hex_TooHigh, hhd_TooHigh, hha_TooHigh, hhn, hht, hhm_TooHigh⟩
        · exact ⟨hga_TooMany, hgg_TooMany, hex_TooMany, hhd_TooMany, hha_TooMany, hhn, hht, hhm_TooMany⟩
        · exact ⟨hga_NotAFormula, hgg_NotAFormula, hex_NotAFormula, hhd_NotAFormula, hha_NotAFormula, hhn, hht, hhm_NotAFormula⟩
        · exact ⟨hga_NotANumber, hgg_NotANumber, hex_NotANumber, hhd_NotANumber, hha_NotANumber, hhn, hht, hhm_NotANumber⟩
        · exact ⟨hga_NotAFormat, hgg_NotAFormat, hex_NotAFormat, hhd_NotAFormat, hha_NotAFormat, hhn, hht, hhm_NotAFormat⟩
        · exact ⟨hga_NotAName, hgg_NotAName, hex_NotAName, hhd_NotAName, hha_NotAName, hhn, hht, hhm_NotAName⟩
        · exact ⟨hga_OffGrid, hgg_OffGrid, hex_OffGrid, hhd_OffGrid, hha_OffGrid, hhn, hht, hhm_OffGrid⟩
        · exact ⟨hga_Unknown, hgg_Unknown, hex_Unknown, hhd_Unknown, hha_Unknown, hhn, hht, hhm_Unknown⟩
        · exact ⟨hga_Taken, hgg_Taken, hex_Taken, hhd_Taken, hha_Taken, hhn, hht, hhm_Taken⟩
        · exact ⟨hga_BadFile, hgg_BadFile, hex_BadFile, hhd_BadFile, hha_BadFile, hhn, hht, hhm_BadFile⟩
        · exact ⟨hga_BadPromise, hgg_BadPromise, hex_BadPromise, hhd_BadPromise, hha_BadPromise, hhn, hht, hhm_BadPromise⟩
        · exact ⟨hga_Broken, hgg_Broken, hex_Broken, hhd_Broken, hha_Broken, hhn, hht, hhm_Broken⟩
        · exact ⟨hga_NotMade, hgg_NotMade, hex_NotMade, hhd_NotMade, hha_NotMade, hhn, hht, hhm_NotMade⟩
        · exact ⟨hga_NothingToUndo, hgg_NothingToUndo, hex_NothingToUndo, hhd_NothingToUndo, hha_NothingToUndo, hhn, hht, hhm_NothingToUndo⟩
        · exact ⟨hga_NothingToRedo, hgg_NothingToRedo, hex_NothingToRedo, hhd_NothingToRedo, hha_NothingToRedo, hhn, hht, hhm_NothingToRedo⟩
        · exact ⟨hga_Turns, hgg_Turns, hex_Turns, hhd_Turns, hha_Turns, hhn, hht, hhm_Turns⟩,
      m_NotTold := PySem.W.exm_ref hex_SheetError hhd_SheetError hty_SheetError hs_NotTold_SheetError,
      m_TooMany := PySem.W.exm_ref hex_SheetError hhd_SheetError hty_SheetError hs_TooMany_SheetError,
      m_OffGrid := PySem.W.exm_ref hex_SheetError hhd_SheetError hty_SheetError hs_OffGrid_SheetError,
      m_Unknown := PySem.W.exm_ref hex_SheetError hhd_SheetError hty_SheetError hs_Unknown_SheetError,
      m_NothingToUndo := PySem.W.exm_ref hex_SheetError hhd_SheetError hty_SheetError hs_NothingToUndo_SheetError }
  refine ⟨PySem.W.fnOf "law" "law" (defArgs (top 31)) (defBody (top 31)) (defScope (top 31)) .none kVlaw dclaw pmlaw anlaw cvlaw ctlaw, [], spLaw K [], fun p hp => ?_, fun p hp => ?_, fun p hp => ?_, fun s u => .of_eq rfl, fun H a ns hl _ hH hS => ⟨a, ns, rfl, hl, fun p hp => ?_, hS, fun _ => rfl⟩, fun base KB GB hTB => ?_⟩
  · simp only [List.not_mem_nil] at hp
  · simp only [List.not_mem_nil] at hp
  · simp only [List.not_mem_nil] at hp
  · simp only [List.not_mem_nil] at hp
  have K__law_alone : ∀ (pn : Addr) (cs : List Int), CalD l.prog w K mg base (MM K [] pn cs) 2 "_law_alone" ["_law_mine"] (s__law_alone A) := fun pn cs => cal__law_alone T D_law_alone 
  have K__law_more : ∀ (pn : Addr) (cs : List Int), CalD l.prog w K mg base (MM K [] pn cs) 2 "_law_more" ["_law_mine", "_law_yours"] (s__law_more A) := fun pn cs => cal__law_more T D_law_more 
  have K__law_draw : ∀ (pn : Addr) (cs : List Int), CalD l.prog w K mg base (MM K [] pn cs) 2 "_law_draw" ["_law_pen_here", "_law_many"] (s__law_draw A) := fun pn cs => cal__law_draw T D_law_draw 
  have K__law_pick : ∀ (pn : Addr) (cs : List Int), CalD l.prog w K mg base (MM K [] pn cs) 3 "_law_pick" ["_law_pen_here", "_law_items"] (s__law_pick A) := fun pn cs => cal__law_pick T D_law_pick (K__law_draw pn cs)
  have K__law_kinds : ∀ (pn : Addr) (cs : List Int), CalD l.prog w K mg base (MM K [] pn cs) 2 "_law_kinds" ["_law_error"] (s__law_kinds A) := fun pn cs => cal__law_kinds T D_law_kinds 
  have K__law_apart : ∀ (pn : Addr) (cs : List Int), CalD l.prog w K mg base (MM K [] pn cs) 3 "_law_apart" ["_law_mine", "_law_yours"] (s__law_apart A) := fun pn cs => cal__law_apart T D_law_apart (K__law_kinds pn cs)
  have K__law_raise : ∀ (pn : Addr) (cs : List Int), CalD l.prog w K mg base (MM K [] pn cs) 2 "_law_raise" ["_law_which", "_law_mine"] (s__law_raise A) := fun pn cs => cal__law_raise T D_law_raise 
  have K__law_caught : ∀ (pn : Addr) (cs : List Int), CalD l.prog w K mg base (MM K [] pn cs) 3 "_law_caught" ["_law_which", "_law_mine"] (s__law_caught A) := fun pn cs => cal__law_caught T D_law_caught (K__law_raise pn cs)
  exact ok_law T Flaw F_law_pen B_law_pen (PySem.W.mg_of X G ha_law_pen) hk_law_pen (PySem.W.mg_none_of X G hn_list) K__law_alone K__law_apart K__law_caught K__law_more K__law_pick
end K00

set_option Elab.async false
-- ROW
open PySem PySem.W PyProof.Rows
set_option maxRecDepth 100000 in
set_option maxHeartbeats 8000000 in
theorem PySem.Challenge.cw_allinputs_k00_errors_made_by_hand_holds : PySem.Challenge.rw_allinputs_k00_errors_made_by_hand.Holds := by
  w_on; o_law; k_head; (case hw => w_witness2)
  k_fill
  refine LamX.walk_ofTs (l := PySem.Challenge.rw_allinputs_k00_errors_made_by_hand) (n := 63) (k := 4) (CX := fun w => L2.CX PySem.Challenge.rw_allinputs_k00_errors_made_by_hand.prog w) (x := "_law_script") rfl (by decide) rfl ⟨rfl, by decide, by decide⟩ (fun w h Y => PySem.W.kIn_of Y) ?F (fun w H s e s' ⟨_, _, _, _, _, _, _, _, _, _, _, _, z⟩ => z)
  case F =>
    intro w mg fa h Y KX G hmg
    refine' K00.fin _ KX G hmg ?qn_ValueError ?qn_all ?qn_bool ?qn_int ?qn_isinstance ?qn_len ?qn_min ?qn_range ?qn_super ?qn_list ?qa_BadFile ?qa_BadPromise ?qa_BadValue ?qa_Broken ?qa_NoDivisor ?qa_NotAFormat ?qa_NotAFormula ?qa_NotAName ?qa_NotANumber ?qa_NotMade ?qa_NotTold ?qa_NothingToRedo ?qa_NothingToUndo ?qa_OffGrid ?qa_SheetError ?qa_Taken ?qa_TooHigh ?qa_TooMany ?qa_Turns ?qa_Unknown ?qex_BadFile ?qhd_BadFile ?qty_BadFile ?qga_BadFile ?qgg_BadFile ?qno_BadFile_at ?qno_BadFile_line ?qex_BadPromise ?qhd_BadPromise ?qty_BadPromise ?qga_BadPromise ?qgg_BadPromise ?qno_BadPromise_promise ?qex_BadValue ?qhd_BadValue ?qty_BadValue ?qga_BadValue ?qgg_BadValue ?qno_BadValue_value ?qex_Broken ?qhd_Broken ?qty_Broken ?qga_Broken ?qgg_Broken ?qno_Broken_promise ?qno_Broken_where ?qex_NoDivisor ?qhd_NoDivisor ?qty_NoDivisor ?qga_NoDivisor ?qgg_NoDivisor ?qex_NotAFormat ?qhd_NotAFormat ?qty_NotAFormat ?qga_NotAFormat ?qgg_NotAFormat ?qno_NotAFormat_at ?qex_NotAFormula ?qhd_NotAFormula ?qty_NotAFormula ?qga_NotAFormula ?qgg_NotAFormula ?qno_NotAFormula_at ?qex_NotAName ?qhd_NotAName ?qty_NotAName ?qga_NotAName ?qgg_NotAName ?qno_NotAName_name ?qex_NotANumber ?qhd_NotANumber ?qty_NotANumber ?qga_NotANumber ?qgg_NotANumber ?qno_NotANumber_at ?qex_NotMade ?qhd_NotMade ?qty_NotMade ?qga_NotMade ?qgg_NotMade ?qno_NotMade_promise ?qex_NotTold ?qhd_NotTold ?qty_NotTold ?qga_NotTold ?qgg_NotTold ?qex_NothingToRedo ?qhd_NothingToRedo ?qty_NothingToRedo ?qga_NothingToRedo ?qgg_NothingToRedo ?qex_NothingToUndo ?qhd_NothingToUndo ?qty_NothingToUndo ?qga_NothingToUndo ?qgg_NothingToUndo ?qex_OffGrid ?qhd_OffGrid ?qty_OffGrid ?qga_OffGrid ?qgg_OffGrid ?qno_OffGrid_column ?qno_OffGrid_row ?qex_SheetError ?qhd_SheetError ?qty_SheetError ?qex_Taken ?qhd_Taken ?qty_Taken ?qga_Taken ?qgg_Taken ?qno_Taken_name ?qex_TooHigh ?qhd_TooHigh ?qty_TooHigh ?qga_TooHigh ?qgg_TooHigh ?qno_TooHigh_most ?qex_TooMany ?qhd_TooMany ?qty_TooMany ?qga_TooMany ?qgg_TooMany ?qno_TooMany_most ?qex_Turns ?qhd_Turns ?qty_Turns ?qga_Turns ?qgg_Turns ?qno_Turns_poly ?qex_Unknown ?qhd_Unknown ?qty_Unknown ?qga_Unknown ?qgg_Unknown ?qno_Unknown_name ?qopq ?qhtop ?qx_BadFile ?qv_BadFile ?qsa_BadFile ?qi_BadFile ?qt_BadFile ?ql_BadFile ?qco_BadFile ?qlc_BadFile ?qvf_BadFile ?qff_BadFile ?qlx_BadFile ?qk_BadFile ?qve_BadFile ?qsu_BadFile ?qse_BadFile ?qx_BadPromise ?qv_BadPromise ?qsa_BadPromise ?qi_BadPromise ?qt_BadPromise ?ql_BadPromise ?qco_BadPromise ?qlc_BadPromise ?qvf_BadPromise ?qff_BadPromise ?qlx_BadPromise ?qk_BadPromise ?qve_BadPromise ?qsu_BadPromise ?qse_BadPromise ?qx_BadValue ?qv_BadValue ?qsa_BadValue ?qi_BadValue ?qt_BadValue ?ql_BadValue ?qco_BadValue ?qlc_BadValue ?qvf_BadValue ?qff_BadValue ?qlx_BadValue ?qk_BadValue ?qve_BadValue ?qsu_BadValue ?qse_BadValue ?qx_Broken ?qv_Broken ?qsa_Broken ?qi_Broken ?qt_Broken ?ql_Broken ?qco_Broken ?qlc_Broken ?qvf_Broken ?qff_Broken ?qlx_Broken ?qk_Broken ?qve_Broken ?qsu_Broken ?qse_Broken ?qx_NotAFormat ?qv_NotAFormat ?qsa_NotAFormat ?qi_NotAFormat ?qt_NotAFormat ?ql_NotAFormat ?qco_NotAFormat ?qlc_NotAFormat ?qvf_NotAFormat ?qff_NotAFormat ?qlx_NotAFormat ?qk_NotAFormat ?qve_NotAFormat ?qsu_NotAFormat ?qse_NotAFormat ?qx_NotAFormula ?qv_NotAFormula ?qsa_NotAFormula ?qi_NotAFormula ?qt_NotAFormula ?ql_NotAFormula ?qco_NotAFormula ?qlc_NotAFormula ?qvf_NotAFormula ?qff_NotAFormula ?qlx_NotAFormula ?qk_NotAFormula ?qve_NotAFormula ?qsu_NotAFormula ?qse_NotAFormula ?qx_NotAName ?qv_NotAName ?qsa_NotAName ?qi_NotAName ?qt_NotAName ?ql_NotAName ?qco_NotAName ?qlc_NotAName ?qvf_NotAName ?qff_NotAName ?qlx_NotAName ?qk_NotAName ?qve_NotAName ?qsu_NotAName ?qse_NotAName ?qx_NotANumber ?qv_NotANumber ?qsa_NotANumber ?qi_NotANumber ?qt_NotANumber ?ql_NotANumber ?qco_NotANumber ?qlc_NotANumber ?qvf_NotANumber ?qff_NotANumber ?qlx_NotANumber ?qk_NotANumber ?qve_NotANumber ?qsu_NotANumber ?qse_NotANumber ?qx_NotMade ?qv_NotMade ?qsa_NotMade ?qi_NotMade ?qt_NotMade ?ql_NotMade ?qco_NotMade ?qlc_NotMade ?qvf_NotMade ?qff_NotMade ?qlx_NotMade ?qk_NotMade ?qve_NotMade ?qsu_NotMade ?qse_NotMade ?qx_OffGrid ?qv_OffGrid ?qsa_OffGrid ?qi_OffGrid ?qt_OffGrid ?ql_OffGrid ?qco_OffGrid ?qlc_OffGrid ?qvf_OffGrid ?qff_OffGrid ?qlx_OffGrid ?qk_OffGrid ?qve_OffGrid ?qsu_OffGrid ?qse_OffGrid ?qx_Taken ?qv_Taken ?qsa_Taken ?qi_Taken ?qt_Taken ?ql_Taken ?qco_Taken ?qlc_Taken ?qvf_Taken ?qff_Taken ?qlx_Taken ?qk_Taken ?qve_Taken ?qsu_Taken ?qse_Taken ?qx_TooHigh ?qv_TooHigh ?qsa_TooHigh ?qi_TooHigh ?qt_TooHigh ?ql_TooHigh ?qco_TooHigh ?qlc_TooHigh ?qvf_TooHigh ?qff_TooHigh ?qlx_TooHigh ?qk_TooHigh ?qve_TooHigh ?qsu_TooHigh ?qse_TooHigh ?qx_TooMany ?qv_TooMany ?qsa_TooMany ?qi_TooMany ?qt_TooMany ?ql_TooMany ?qco_TooMany ?qlc_TooMany ?qvf_TooMany ?qff_TooMany ?qlx_TooMany ?qk_TooMany ?qve_TooMany ?qsu_TooMany ?qse_TooMany ?qx_Turns ?qv_Turns ?qsa_Turns ?qi_Turns ?qt_Turns ?ql_Turns ?qco_Turns ?qlc_Turns ?qvf_Turns ?qff_Turns ?qlx_Turns ?qk_Turns ?qve_Turns ?qsu_Turns ?qse_Turns ?qx_Unknown ?qv_Unknown ?qsa_Unknown ?qi_Unknown ?qt_Unknown ?ql_Unknown ?qco_Unknown ?qlc_Unknown ?qvf_Unknown ?qff_Unknown ?qlx_Unknown ?qk_Unknown ?qve_Unknown ?qsu_Unknown ?qse_Unknown ?qx_NoDivisor ?qv_NoDivisor ?qi_NoDivisor ?qk_NoDivisor ?qx_NotTold ?qv_NotTold ?qi_NotTold ?qk_NotTold ?qx_NothingToRedo ?qv_NothingToRedo ?qi_NothingToRedo ?qk_NothingToRedo ?qx_NothingToUndo ?qv_NothingToUndo ?qi_NothingToUndo ?qk_NothingToUndo ?qkk ?qkS ?qkV ?qnd ?qs_NotTold_SheetError ?qs_TooMany_SheetError ?qs_OffGrid_SheetError ?qs_Unknown_SheetError ?qs_NothingToUndo_SheetError ?qhn ?qht ?qha_BadValue ?qhm_BadValue ?qha_NoDivisor ?qhm_NoDivisor ?qha_NotTold ?qhm_NotTold ?qha_TooHigh ?qhm_TooHigh ?qha_TooMany ?qhm_TooMany ?qha_NotAFormula ?qhm_NotAFormula ?qha_NotANumber ?qhm_NotANumber ?qha_NotAFormat ?qhm_NotAFormat ?qha_NotAName ?qhm_NotAName ?qha_OffGrid ?qhm_OffGrid ?qha_Unknown ?qhm_Unknown ?qha_Taken ?qhm_Taken ?qha_BadFile ?qhm_BadFile ?qha_BadPromise ?qhm_BadPromise ?qha_Broken ?qhm_Broken ?qha_NotMade ?qhm_NotMade ?qha_NothingToUndo ?qhm_NothingToUndo ?qha_NothingToRedo ?qhm_NothingToRedo ?qha_Turns ?qhm_Turns ?qa_law_alone ?ql_law_alone ?qc_law_alone ?qk_law_alone ?qa_law_more ?ql_law_more ?qc_law_more ?qk_law_more ?qa_law_draw ?ql_law_draw ?qc_law_draw ?qk_law_draw ?qa_law_pick ?ql_law_pick ?qc_law_pick ?qk_law_pick ?qa_law_kinds ?ql_law_kinds ?qc_law_kinds ?qk_law_kinds ?qa_law_apart ?ql_law_apart ?qc_law_apart ?qk_law_apart ?qa_law_raise ?ql_law_raise ?qc_law_raise ?qk_law_raise ?qa_law_caught ?ql_law_caught ?qc_law_caught ?qk_law_caught ?qalaw ?qllaw ?qclaw ?qklaw ?qa_law_pen ?ql_law_pen ?qc_law_pen ?qk_law_pen
    (case qn_ValueError => k_is)
    (case qn_all => k_is)
    (case qn_bool => k_is)
    (case qn_int => k_is)
    (case qn_isinstance => k_is)
    (case qn_len => k_is)
    (case qn_min => k_is)
    (case qn_range => k_is)
    (case qn_super => k_is)
    (case qn_list => k_is)
    (case qa_BadFile => k_is)
    (case qa_BadPromise => k_is)
    (case qa_BadValue => k_is)
    (case qa_Broken => k_is)
    (case qa_NoDivisor => k_is)
    (case qa_NotAFormat => k_is)
    (case qa_NotAFormula => k_is)
    (case qa_NotAName => k_is)
    (case qa_NotANumber => k_is)
    (case qa_NotMade => k_is)
    (case qa_NotTold => k_is)
    (case qa_NothingToRedo => k_is)
    (case qa_NothingToUndo => k_is)
    (case qa_OffGrid => k_is)
    (case qa_SheetError => k_is)
    (case qa_Taken => k_is)
    (case qa_TooHigh => k_is)
    (case qa_TooMany => k_is)
    (case qa_Turns => k_is)
    (case qa_Unknown => k_is)
    (case qex_BadFile => k_is)
    (case qhd_BadFile => k_is)
    (case qty_BadFile => k_is)
    (case qga_BadFile => k_is)
    (case qgg_BadFile => k_is)
    (case qno_BadFile_at => k_is)
    (case qno_BadFile_line => k_is)
    (case qex_BadPromise => k_is)
    (case qhd_BadPromise => k_is)
    (case qty_BadPromise => k_is)
    (case qga_BadPromise => k_is)
    (case qgg_BadPromise => k_is)
    (case qno_BadPromise_promise => k_is)
    (case qex_BadValue => k_is)
    (case qhd_BadValue => k_is)
    (case qty_BadValue => k_is)
    (case qga_BadValue => k_is)
    (case qgg_BadValue => k_is)
    (case qno_BadValue_value => k_is)
    (case qex_Broken => k_is)
    (case qhd_Broken => k_is)
    (case qty_Broken => k_is)
    (case qga_Broken => k_is)
    (case qgg_Broken => k_is)
    (case qno_Broken_promise => k_is)
    (case qno_Broken_where => k_is)
    (case qex_NoDivisor => k_is)
    (case qhd_NoDivisor => k_is)
    (case qty_NoDivisor => k_is)
    (case qga_NoDivisor => k_is)
    (case qgg_NoDivisor => k_is)
    (case qex_NotAFormat => k_is)
    (case qhd_NotAFormat => k_is)
    (case qty_NotAFormat => k_is)
    (case qga_NotAFormat => k_is)
    (case qgg_NotAFormat => k_is)
    (case qno_NotAFormat_at => k_is)
    (case qex_NotAFormula => k_is)
    (case qhd_NotAFormula => k_is)
    (case qty_NotAFormula => k_is)
    (case qga_NotAFormula => k_is)
    (case qgg_NotAFormula => k_is)
    (case qno_NotAFormula_at => k_is)
    (case qex_NotAName => k_is)
    (case qhd_NotAName => k_is)
    (case qty_NotAName => k_is)
    (case qga_NotAName => k_is)
    (case qgg_NotAName => k_is)
    (case qno_NotAName_name => k_is)
    (case qex_NotANumber => k_is)
    (case qhd_NotANumber => k_is)
    (case qty_NotANumber => k_is)
    (case qga_NotANumber => k_is)
    (case qgg_NotANumber => k_is)
    (case qno_NotANumber_at => k_is)
    (case qex_NotMade => k_is)
    (case qhd_NotMade => k_is)
    (case qty_NotMade => k_is)
    (case qga_NotMade => k_is)
    (case qgg_NotMade => k_is)
    (case qno_NotMade_promise => k_is)
    (case qex_NotTold => k_is)
    (case qhd_NotTold => k_is)
    (case qty_NotTold => k_is)
    (case qga_NotTold => k_is)
    (case qgg_NotTold => k_is)
    (case qex_NothingToRedo => k_is)
    (case qhd_NothingToRedo => k_is)
    (case qty_NothingToRedo => k_is)
    (case qga_NothingToRedo => k_is)
    (case qgg_NothingToRedo => k_is)
    (case qex_NothingToUndo => k_is)
    (case qhd_NothingToUndo => k_is)
    (case qty_NothingToUndo => k_is)
    (case qga_NothingToUndo => k_is)
    (case qgg_NothingToUndo => k_is)
    (case qex_OffGrid => k_is)
    (case qhd_OffGrid => k_is)
    (case qty_OffGrid => k_is)
    (case qga_OffGrid => k_is)
    (case qgg_OffGrid => k_is)
    (case qno_OffGrid_column => k_is)
    (case qno_OffGrid_row => k_is)
    (case qex_SheetError => k_is)
    (case qhd_SheetError => k_is)
    (case qty_SheetError => k_is)
    (case qex_Taken => k_is)
    (case qhd_Taken => k_is)
    (case qty_Taken => k_is)
    (case qga_Taken => k_is)
    (case qgg_Taken => k_is)
    (case qno_Taken_name => k_is)
    (case qex_TooHigh => k_is)
    (case qhd_TooHigh => k_is)
    (case qty_TooHigh => k_is)
    (case qga_TooHigh => k_is)
    (case qgg_TooHigh => k_is)
    (case qno_TooHigh_most => k_is)
    (case qex_TooMany => k_is)
    (case qhd_TooMany => k_is)
    (case qty_TooMany => k_is)
    (case qga_TooMany => k_is)
    (case qgg_TooMany => k_is)
    (case qno_TooMany_most => k_is)
    (case qex_Turns => k_is)
    (case qhd_Turns => k_is)
    (case qty_Turns => k_is)
    (case qga_Turns => k_is)
    (case qgg_Turns => k_is)
    (case qno_Turns_poly => k_is)
    (case qex_Unknown => k_is)
    (case qhd_Unknown => k_is)
    (case qty_Unknown => k_is)
    (case qga_Unknown => k_is)
    (case qgg_Unknown => k_is)
    (case qno_Unknown_name => k_is)
    (case qopq => k_is)
    (case qhtop => decide +kernel)
    (case qx_BadFile => k_is)
    (case qv_BadFile => decide +kernel)
    (case qsa_BadFile => k_is)
    (case qi_BadFile => k_is)
    (case qt_BadFile => k_is)
    (case ql_BadFile => k_is)
    (case qco_BadFile => k_is)
    (case qlc_BadFile => k_is)
    (case qvf_BadFile => rfl)
    (case qff_BadFile => decide +kernel)
    (case qlx_BadFile => k_is)
    (case qk_BadFile => k_is)
    (case qve_BadFile => k_is)
    (case qsu_BadFile => first | k_is | rfl | kernel_rfl)
    (case qse_BadFile => k_is)
    (case qx_BadPromise => k_is)
    (case qv_BadPromise => decide +kernel)
    (case qsa_BadPromise => k_is)
    (case qi_BadPromise => k_is)
    (case qt_BadPromise => k_is)
    (case ql_BadPromise => k_is)
    (case qco_BadPromise => k_is)
    (case qlc_BadPromise => k_is)
    (case qvf_BadPromise => rfl)
    (case qff_BadPromise => decide +kernel)
    (case qlx_BadPromise => k_is)
    (case qk_BadPromise => k_is)
    (case qve_BadPromise => k_is)
    (case qsu_BadPromise => first | k_is | rfl | kernel_rfl)
    (case qse_BadPromise => k_is)
    (case qx_BadValue => k_is)
    (case qv_BadValue => decide +kernel)
    (case qsa_BadValue => k_is)
    (case qi_BadValue => k_is)
    (case qt_BadValue => k_is)
    (case ql_BadValue => k_is)
    (case qco_BadValue => k_is)
    (case qlc_BadValue => k_is)
    (case qvf_BadValue => rfl)
    (case qff_BadValue => decide +kernel)
    (case qlx_BadValue => k_is)
    (case qk_BadValue => k_is)
    (case qve_BadValue => k_is)
    (case qsu_BadValue => first | k_is | rfl | kernel_rfl)
    (case qse_BadValue => k_is)
    (case qx_Broken => k_is)
    (case qv_Broken => decide +kernel)
    (case qsa_Broken => k_is)
    (case qi_Broken => k_is)
    (case qt_Broken => k_is)
    (case ql_Broken => k_is)
    (case qco_Broken => k_is)
    (case qlc_Broken => k_is)
    (case qvf_Broken => rfl)
    (case qff_Broken => decide +kernel)
    (case qlx_Broken => k_is)
    (case qk_Broken => k_is)
    (case qve_Broken => k_is)
    (case qsu_Broken => first | k_is | rfl | kernel_rfl)
    (case qse_Broken => k_is)
    (case qx_NotAFormat => k_is)
    (case qv_NotAFormat => decide +kernel)
    (case qsa_NotAFormat => k_is)
    (case qi_NotAFormat => k_is)
    (case qt_NotAFormat => k_is)
    (case ql_NotAFormat => k_is)
    (case qco_NotAFormat => k_is)
    (case qlc_NotAFormat => k_is)
    (case qvf_NotAFormat => rfl)
    (case qff_NotAFormat => decide +kernel)
    (case qlx_NotAFormat => k_is)
    (case qk_NotAFormat => k_is)
    (case qve_NotAFormat => k_is)
    (case qsu_NotAFormat => first | k_is | rfl | kernel_rfl)
    (case qse_NotAFormat => k_is)
    (case qx_NotAFormula => k_is)
    (case qv_NotAFormula => decide +kernel)
    (case qsa_NotAFormula => k_is)
    (case qi_NotAFormula => k_is)
    (case qt_NotAFormula => k_is)
    (case ql_NotAFormula => k_is)
    (case qco_NotAFormula => k_is)
    (case qlc_NotAFormula => k_is)
    (case qvf_NotAFormula => rfl)
    (case qff_NotAFormula => decide +kernel)
    (case qlx_NotAFormula => k_is)
    (case qk_NotAFormula => k_is)
    (case qve_NotAFormula => k_is)
    (case qsu_NotAFormula => first | k_is | rfl | kernel_rfl)
    (case qse_NotAFormula => k_is)
    (case qx_NotAName => k_is)
    (case qv_NotAName => decide +kernel)
    (case qsa_NotAName => k_is)
    (case qi_NotAName => k_is)
    (case qt_NotAName => k_is)
    (case ql_NotAName => k_is)
    (case qco_NotAName => k_is)
    (case qlc_NotAName => k_is)
    (case qvf_NotAName => rfl)
    (case qff_NotAName => decide +kernel)
    (case qlx_NotAName => k_is)
    (case qk_NotAName => k_is)
    (case qve_NotAName => k_is)
    (case qsu_NotAName => first | k_is | rfl | kernel_rfl)
    (case qse_NotAName => k_is)
    (case qx_NotANumber => k_is)
    (case qv_NotANumber => decide +kernel)
    (case qsa_NotANumber => k_is)
    (case qi_NotANumber => k_is)
    (case qt_NotANumber => k_is)
    (case ql_NotANumber => k_is)
    (case qco_NotANumber => k_is)
    (case qlc_NotANumber => k_is)
    (case qvf_NotANumber => rfl)
    (case qff_NotANumber => decide +kernel)
    (case qlx_NotANumber => k_is)
    (case qk_NotANumber => k_is)
    (case qve_NotANumber => k_is)
    (case qsu_NotANumber => first | k_is | rfl | kernel_rfl)
    (case qse_NotANumber => k_is)
    (case qx_NotMade => k_is)
    (case qv_NotMade => decide +kernel)
    (case qsa_NotMade => k_is)
    (case qi_NotMade => k_is)
    (case qt_NotMade => k_is)
    (case ql_NotMade => k_is)
    (case qco_NotMade => k_is)
    (case qlc_NotMade => k_is)
    (case qvf_NotMade => rfl)
    (case qff_NotMade => decide +kernel)
    (case qlx_NotMade => k_is)
    (case qk_NotMade => k_is)
    (case qve_NotMade => k_is)
    (case qsu_NotMade => first | k_is | rfl | kernel_rfl)
    (case qse_NotMade => k_is)
    (case qx_OffGrid => k_is)
    (case qv_OffGrid => decide +kernel)
    (case qsa_OffGrid => k_is)
    (case qi_OffGrid => k_is)
    (case qt_OffGrid => k_is)
    (case ql_OffGrid => k_is)
    (case qco_OffGrid => k_is)
    (case qlc_OffGrid => k_is)
    (case qvf_OffGrid => rfl)
    (case qff_OffGrid => decide +kernel)
    (case qlx_OffGrid => k_is)
    (case qk_OffGrid => k_is)
    (case qve_OffGrid => k_is)
    (case qsu_OffGrid => first | k_is | rfl | kernel_rfl)
    (case qse_OffGrid => k_is)
    (case qx_Taken => k_is)
    (case qv_Taken => decide +kernel)
    (case qsa_Taken => k_is)
    (case qi_Taken => k_is)
    (case qt_Taken => k_is)
    (case ql_Taken => k_is)
    (case qco_Taken => k_is)
    (case qlc_Taken => k_is)
    (case qvf_Taken => rfl)
    (case qff_Taken => decide +kernel)
    (case qlx_Taken => k_is)
    (case qk_Taken => k_is)
    (case qve_Taken => k_is)
    (case qsu_Taken => first | k_is | rfl | kernel_rfl)
    (case qse_Taken => k_is)
    (case qx_TooHigh => k_is)
    (case qv_TooHigh => decide +kernel)
    (case qsa_TooHigh => k_is)
    (case qi_TooHigh => k_is)
    (case qt_TooHigh => k_is)
    (case ql_TooHigh => k_is)
    (case qco_TooHigh => k_is)
    (case qlc_TooHigh => k_is)
    (case qvf_TooHigh => rfl)
    (case qff_TooHigh => decide +kernel)
    (case qlx_TooHigh => k_is)
    (case qk_TooHigh => k_is)
    (case qve_TooHigh => k_is)
    (case qsu_TooHigh => first | k_is | rfl | kernel_rfl)
    (case qse_TooHigh => k_is)
    (case qx_TooMany => k_is)
    (case qv_TooMany => decide +kernel)
    (case qsa_TooMany => k_is)
    (case qi_TooMany => k_is)
    (case qt_TooMany => k_is)
    (case ql_TooMany => k_is)
    (case qco_TooMany => k_is)
    (case qlc_TooMany => k_is)
    (case qvf_TooMany => rfl)
    (case qff_TooMany => decide +kernel)
    (case qlx_TooMany => k_is)
    (case qk_TooMany => k_is)
    (case qve_TooMany => k_is)
    (case qsu_TooMany => first | k_is | rfl | kernel_rfl)
    (case qse_TooMany => k_is)
    (case qx_Turns => k_is)
    (case qv_Turns => decide +kernel)
    (case qsa_Turns => k_is)
    (case qi_Turns => k_is)
    (case qt_Turns => k_is)
    (case ql_Turns => k_is)
    (case qco_Turns => k_is)
    (case qlc_Turns => k_is)
    (case qvf_Turns => rfl)
    (case qff_Turns => decide +kernel)
    (case qlx_Turns => k_is)
    (case qk_Turns => k_is)
    (case qve_Turns => k_is)
    (case qsu_Turns => first | k_is | rfl | kernel_rfl)
    (case qse_Turns => k_is)
    (case qx_Unknown => k_is)
    (case qv_Unknown => decide +kernel)
    (case qsa_Unknown => k_is)
    (case qi_Unknown => k_is)
    (case qt_Unknown => k_is)
    (case ql_Unknown => k_is)
    (case qco_Unknown => k_is)
    (case qlc_Unknown => k_is)
    (case qvf_Unknown => rfl)
    (case qff_Unknown => decide +kernel)
    (case qlx_Unknown => k_is)
    (case qk_Unknown => k_is)
    (case qve_Unknown => k_is)
    (case qsu_Unknown => first | k_is | rfl | kernel_rfl)
    (case qse_Unknown => k_is)
    (case qx_NoDivisor => k_is)
    (case qv_NoDivisor => decide +kernel)
    (case qi_NoDivisor => first | k_is | rfl)
    (case qk_NoDivisor => first | k_is | rfl)
    (case qx_NotTold => k_is)
    (case qv_NotTold => decide +kernel)
    (case qi_NotTold => first | k_is | rfl)
    (case qk_NotTold => first | k_is | rfl)
    (case qx_NothingToRedo => k_is)
    (case qv_NothingToRedo => decide +kernel)
    (case qi_NothingToRedo => first | k_is | rfl)
    (case qk_NothingToRedo => first | k_is | rfl)
    (case qx_NothingToUndo => k_is)
    (case qv_NothingToUndo => decide +kernel)
    (case qi_NothingToUndo => first | k_is | rfl)
    (case qk_NothingToUndo => first | k_is | rfl)
    (case qkk => first | k_is | kernel_rfl | decide +kernel)
    (case qkS => first | k_is | kernel_rfl | decide +kernel)
    (case qkV => first | k_is | kernel_rfl | decide +kernel)
    (case qnd => decide +kernel)
    (case qs_NotTold_SheetError => first | k_is | rfl)
    (case qs_TooMany_SheetError => first | k_is | rfl)
    (case qs_OffGrid_SheetError => first | k_is | rfl)
    (case qs_Unknown_SheetError => first | k_is | rfl)
    (case qs_NothingToUndo_SheetError => first | k_is | rfl)
    (case qhn => first | k_is | rfl)
    (case qht => first | k_is | rfl)
    (case qha_BadValue => first | k_is | rfl)
    (case qhm_BadValue => first | k_is | rfl)
    (case qha_NoDivisor => first | k_is | rfl)
    (case qhm_NoDivisor => first | k_is | rfl)
    (case qha_NotTold => first | k_is | rfl)
    (case qhm_NotTold => first | k_is | rfl)
    (case qha_TooHigh => first | k_is | rfl)
    (case qhm_TooHigh => first | k_is | rfl)
    (case qha_TooMany => first | k_is | rfl)
    (case qhm_TooMany => first | k_is | rfl)
    (case qha_NotAFormula => first | k_is | rfl)
    (case qhm_NotAFormula => first | k_is | rfl)
    (case qha_NotANumber => first | k_is | rfl)
    (case qhm_NotANumber => first | k_is | rfl)
    (case qha_NotAFormat => first | k_is | rfl)
    (case qhm_NotAFormat => first | k_is | rfl)
    (case qha_NotAName => first | k_is | rfl)
    (case qhm_NotAName => first | k_is | rfl)
    (case qha_OffGrid => first | k_is | rfl)
    (case qhm_OffGrid => first | k_is | rfl)
    (case qha_Unknown => first | k_is | rfl)
    (case qhm_Unknown => first | k_is | rfl)
    (case qha_Taken => first | k_is | rfl)
    (case qhm_Taken => first | k_is | rfl)
    (case qha_BadFile => first | k_is | rfl)
    (case qhm_BadFile => first | k_is | rfl)
    (case qha_BadPromise => first | k_is | rfl)
    (case qhm_BadPromise => first | k_is | rfl)
    (case qha_Broken => first | k_is | rfl)
    (case qhm_Broken => first | k_is | rfl)
    (case qha_NotMade => first | k_is | rfl)
    (case qhm_NotMade => first | k_is | rfl)
    (case qha_NothingToUndo => first | k_is | rfl)
    (case qhm_NothingToUndo => first | k_is | rfl)
    (case qha_NothingToRedo => first | k_is | rfl)
    (case qhm_NothingToRedo => first | k_is | rfl)
    (case qha_Turns => first | k_is | rfl)
    (case qhm_Turns => first | k_is | rfl)
    (case qa_law_alone => k_is)
    (case ql_law_alone => k_is)
    (case qc_law_alone => k_is)
    (case qk_law_alone => k_is)
    (case qa_law_more => k_is)
    (case ql_law_more => k_is)
    (case qc_law_more => k_is)
    (case qk_law_more => k_is)
    (case qa_law_draw => k_is)
    (case ql_law_draw => k_is)
    (case qc_law_draw => k_is)
    (case qk_law_draw => k_is)
    (case qa_law_pick => k_is)
    (case ql_law_pick => k_is)
    (case qc_law_pick => k_is)
    (case qk_law_pick => k_is)
    (case qa_law_kinds => k_is)
    (case ql_law_kinds => k_is)
    (case qc_law_kinds => k_is)
    (case qk_law_kinds => k_is)
    (case qa_law_apart => k_is)
    (case ql_law_apart => k_is)
    (case qc_law_apart => k_is)
    (case qk_law_apart => k_is)
    (case qa_law_raise => k_is)
    (case ql_law_raise => k_is)
    (case qc_law_raise => k_is)
    (case qk_law_raise => k_is)
    (case qa_law_caught => k_is)
    (case ql_law_caught => k_is)
    (case qc_law_caught => k_is)
    (case qk_law_caught => k_is)
    (case qalaw => k_is)
    (case qllaw => k_is)
    (case qclaw => k_is)
    (case qklaw => k_is)
    (case qa_law_pen => k_is)
    (case ql_law_pen => k_is)
    (case qc_law_pen => k_is)
    (case qk_law_pen => k_is)
