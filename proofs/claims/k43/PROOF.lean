import PyProof.Rows.All
import Wide.All
import OpenK.AllK
import Wide.FinOn
import KE.KLam
import KE.KNestM
import HandS.Head0
import HandS.Head1
import HandS.Head2
import PySem.Challenge.RW_allinputs_k43_places_of_grids
import HandS.ForMost
import HandS.Exc
import HandS.TryOnly
import HandS.ExcOwn
import HandS.WordsExc
import HandS.CallSlots
import HandS.IsInst
import HandS.Wide
import HandS.Lambda
import HandS.ExcField
import KE.KDictList
import PyProof.StrWalks
import HandS.TupAny
import HandS.Replace
import HandS.Defaults
import HandS.Codes
import KE.KSuper
import KE.KExcSuper
import HandS.ExcIs
import KE.KExcIs
import HandS.Dict
import HandS.ExcInit
import HandS.MakeKwOnly
import KE.KIntText
import KE.IntTextLaws
import HandS.SortKw
import KE.KSortKey
import HandS.Keys
import HandS.TupLe
import HandS.Deep
import HandS.Style
import HandS.Iter
import HandS.Sort
import HandS.OwnEq
import HandS.DictComp
import HandS.ExcValue
import KE.KOpsOwn
import PyProof.FactsAll.int
import PyProof.FactsAll.bool
import HandS.FStr
import KE.KCallOwn
import PyProof.CallFns
import PyProof.ReprRoads
import HandS.EndTab
import HandS.Small
import HandS.Rev
import KE.GoesEnum
import PyProof.NeKinds
import HandS.HotCalls
import HandS.MakeKw
set_option Elab.async false
set_option linter.all false
set_option maxRecDepth 100000
set_option maxHeartbeats 8000000
set_option autoImplicit false
/-! The head by one run over the tree, with what km_head writes out. -/
namespace HeadT
open PySem PySem.W PySem.Calls PyProof.Rows
/-- what is looked at behind the top, off the tree -/
def obT (as ts : List Addr) (s : SharedT) : List (Option Obj) × List (Option Obj) := (as.map (HandSHeadRun.getT s), ts.map (HandSHeadRun.getT s))
theorem obT_eq {K : Params → Frag} {as ts : List Addr} {e : ∀ P, as = (K P).map (·.1)} (s : SharedT) : obT as ts s = (kmHook K as e ts).obs s.abs := by
  have h : HandSHeadRun.getT s = s.abs.heap.get? := funext (HandSHeadRun.getT_eq s)
  unfold obT
  rw [h]
  rfl
/-- the view of the top: the statement at i alone -/
theorem head_km {r : OpenRow} {H : Hook} {K : Params → Frag} {as ts : List Addr} {e : ∀ P, as = (K P).map (·.1)} (hH : H = kmHook K as e ts) (i M : Nat) (loose : List PySem.Str)
    (e1 : opening r.prog = plainProg r.prog.main.scope.names) (f : ∀ s, fenceModules? r.prog s = some s) (run : ∀ w, HandSHeadRun.RunEq r (view r.prog [i]) (kmHook K as e ts) (obT as ts) M loose w)
    (hdef : defOf (view r.prog [i]) r.name = some (HandSHeadRun.topDef r.prog i, [])) (hp : r.prog.theDef r.name = some ((HandSHeadRun.topDef r.prog i).params, (HandSHeadRun.topDef r.prog i).body, (HandSHeadRun.topDef r.prog i).scope))
    (hk : kwWritten? (HandSHeadRun.topDef r.prog i).params.kwonlyargs (HandSHeadRun.topDef r.prog i).params.kw_defaults = some []) (hwr : (!r.writes || r.records.isEmpty) = true) (k1 : r.wellSaid = true) (ok : (chainsOk (view r.prog [i]) && opensWell r.prog && (frees r.toRowW && r.within.isEmpty)) = true) (hb : r.prog.bare)
    (hw : r.toRowW.promised) (call : WalkO (view r.prog [i]) loose (XL (view r.prog [i]) []) (kmHook K as e ts).says r.toRowW (HandSHeadRun.topDef r.prog i) [] fun f vs => PySem.call f vs) : r.Holds :=
  HandSHeadRun.head_any (H := kmHook K as e ts) (ob := obT as ts) obT_eq e1 f run hdef hp hk hwr k1 ok hb hw call
def obK (as : List Addr) (s : SharedT) : List (Option Obj) := as.map (HandSHeadRun.getT s)
theorem obK_eq {K : Params → Frag} {as : List Addr} {e : ∀ P, as = (K P).map (·.1)} (s : SharedT) : obK as s = (kHook K as e).obs s.abs := by
  have h : HandSHeadRun.getT s = s.abs.heap.get? := funext (HandSHeadRun.getT_eq s)
  unfold obK
  rw [h]
  rfl
/-- the same where no def makes functions -/
theorem head_k {r : OpenRow} {H : Hook} {K : Params → Frag} {as : List Addr} {e : ∀ P, as = (K P).map (·.1)} (hH : H = kHook K as e) (i M : Nat) (loose : List PySem.Str)
    (e1 : opening r.prog = plainProg r.prog.main.scope.names) (f : ∀ s, fenceModules? r.prog s = some s) (run : ∀ w, HandSHeadRun.RunEq r (view r.prog [i]) (kHook K as e) (obK as) M loose w)
    (hdef : defOf (view r.prog [i]) r.name = some (HandSHeadRun.topDef r.prog i, [])) (hp : r.prog.theDef r.name = some ((HandSHeadRun.topDef r.prog i).params, (HandSHeadRun.topDef r.prog i).body, (HandSHeadRun.topDef r.prog i).scope))
    (hk : kwWritten? (HandSHeadRun.topDef r.prog i).params.kwonlyargs (HandSHeadRun.topDef r.prog i).params.kw_defaults = some []) (hwr : (!r.writes || r.records.isEmpty) = true) (k1 : r.wellSaid = true) (ok : (chainsOk (view r.prog [i]) && opensWell r.prog && (frees r.toRowW && r.within.isEmpty)) = true) (hb : r.prog.bare)
    (hw : r.toRowW.promised) (call : WalkO (view r.prog [i]) loose (XL (view r.prog [i]) []) (kHook K as e).says r.toRowW (HandSHeadRun.topDef r.prog i) [] fun f vs => PySem.call f vs) : r.Holds :=
  HandSHeadRun.head_any (H := kHook K as e) (ob := obK as) obK_eq e1 f run hdef hp hk hwr k1 ok hb hw call
end HeadT

set_option Elab.async false
set_option linter.all false
set_option maxRecDepth 100000
set_option maxHeartbeats 8000000
set_option autoImplicit false
namespace K43
open PySem PySem.W PyProof.Rows
def ln0 : List PySem.Str := ["_wall", "SheetError", "BadValue", "NoDivisor", "NotTold", "TooHigh", "Turns", "is_integer", "need_integer", "need_items", "is_corner", "common_whole", "whole_power", "is_square", "Ratio", "sign_of_whole", "ratio_of", "ratio_beside", "ratio_sum", "below_or_above", "half_way", "trimmed", "poly_part", "added", "multiplied", "product_part", "slope_of", "shared_whole", "thinned", "upright"]
def ln1 : List PySem.Str := ["left_over", "less_shifted", "rest_of", "common_parts", "quotient_of", "plain_parts", "scaled_worth", "sign_at", "sign_far", "sturm_row", "index_row", "row_from", "sign_changes", "changes_at", "roots_between", "bound_of", "Poly", "need_poly", "need_poly_not_nought", "poly_of", "worth_of", "MOST_DEGREE", "MOST_PART", "Curve", "lowest", "need_low", "curve_of", "curve_sum", "curve_product", "curve_power"]
def ln2 : List PySem.Str := ["level_ratio", "curve_worth", "Point", "narrowed", "bracket_of", "are_one", "point_order", "point_beside", "sign_there", "ratio_there", "ratio_between", "end_order", "separated", "wide_ends", "ratios_of", "without_ratios", "points_between", "point_of", "MOST_HALVINGS", "Member", "curve_sign", "curve_there", "first_guess", "whole_near", "is_at_least", "floor_at", "left_ratios", "ratio_power", "resultant_of", "lowered_at"]
def ln3 : List PySem.Str := ["ratio_at", "number_at", "power_at", "is_between", "lies_in", "outer_end", "roots_within", "has_root", "note_rootless", "has_plain_root", "Strand", "need_straight", "curve_beside", "number_on", "FAULT_KINDS", "MOST_SIGNS", "Fault", "is_number", "is_text", "is_value", "MOST_VALUES", "is_row", "need_rows", "Grid", "stretch", "part_within", "stretched", "part_at", "_law_begin", "_law_draw"]
def ln4 : List PySem.Str := ["_law_pick", "_law_value", "_law_rows", "_law_given", "_law_same", "_law_refused", "_law_are_refused"]
def loose : List PySem.Str := ln0 ++ ln1 ++ ln2 ++ ln3 ++ ln4

local macro_rules | `(tactic| o_head $H) => `(tactic| (have hh : $H = $H := rfl; assumption))
/-- what k_head writes out of the top -/
theorem mk (hx : (OpenLaw.row PySem.Challenge.rw_allinputs_k43_places_of_grids).Holds) : (OpenLaw.row PySem.Challenge.rw_allinputs_k43_places_of_grids).Holds := by
  k_head
def P0 : Params := { strHash := fun _ => 0, shareClass := fun _ => 0, mergeTok := id, idOf := fun _ => 0, idOfShared := fun _ _ => 0, followText := fun _ => false, idOfImm := fun _ => 0 }
noncomputable def asL : List Addr := (mk.heap_1 P0).map (·.1)
theorem asL_eq : ∀ P, asL = (mk.heap_1 P).map (·.1) := fun P => by kernel_rfl
theorem run (w : World) : HandSHeadRun.RunEq (OpenLaw.row PySem.Challenge.rw_allinputs_k43_places_of_grids) (view (OpenLaw.row PySem.Challenge.rw_allinputs_k43_places_of_grids).prog [141]) (kmHook mk.heap_1 asL asL_eq [1554]) (HeadT.obT asL [1554]) 20000 loose w := by
  intro os
  kernel_rfl
end K43

set_option Elab.async false
set_option linter.all false
set_option maxRecDepth 100000
set_option maxHeartbeats 4000000
set_option autoImplicit false
/-! The data layer: values as trees, the heap out of sight. -/
namespace DL
open PySem PySem.Spec PyProof.Rows L2
abbrev Frag := PySem.W.Frag
abbrev S (l : List Nat) : Str := ⟨l.toArray⟩
/-- a lambda without parameters: its name, arguments, body, scope -/
structure Src where
  q : Str
  ps : Arguments
  b : Expr
  sc : Scope
/-- the function object at f of the lambda r, its code object at c, made where the cells are fr -/
def FunO (f c : Addr) (r : Src) (fr : List (Str × Addr)) : HO := .ext fun h => ∃ pm ctv, h.get? f = some (PySem.W.kla_obj "<lambda>" r.q r.ps r.b r.sc (cloFrom fr r.sc.names []) pm c ctv)
/-- a value as a tree; exc: a caught exception at a, of the class C, its dict dd; thk: a lambda f whose code object is c, made where the slots are σ -/
inductive D where
  | non | bl (b : Bool) | int (i : Int) | str (l : List Nat) | ty (n : String) | ref (a : Addr)
  | pen | lst (xs : List D) | tup (xs : List D) | ins (C : Addr) (ns : List Str) (xs : List D)
  | exc (a C : Addr) (dd : Option Addr) (ns : List Str) (xs : List D) | err (C : Addr) (ns : List Str) (xs : List D) | dct | scr
  | thk (f c : Addr) (q : Str) (σ : List (Option V)) (δ : List (Option D)) | fn (r : Src) (fr : List (Str × Addr))
/-- what may change: a list, an instance, a dict -/
inductive MO where
  | lst (xs : List D) | ins (C dx : Addr) (ns : List Str) (xs : List D) | dic (ks : List Key) (xs : List D) | rng (lo hi : Int)
/-- how far a run is: draws so far, the objects that may change -/
structure NS where
  at_ : Nat
  mu : Addr → Option MO
/-- mu with o at a -/
def mup (m : Addr → Option MO) (a : Addr) (o : Option MO) : Addr → Option MO := fun b => if b = a then o else m b
@[simp] theorem mup_same {m : Addr → Option MO} {a : Addr} {o : Option MO} : mup m a o a = o := if_pos rfl
theorem mup_ne {m : Addr → Option MO} {a b : Addr} {o : Option MO} (h : b ≠ a) : mup m a o b = m b := if_neg h
theorem mup_mup {m : Addr → Option MO} {a : Addr} {o u : Option MO} : mup (mup m a o) a u = mup m a u := by
  funext b
  unfold mup
  split <;> rfl
theorem mup_back {m : Addr → Option MO} {a : Addr} (h : m a = none) : mup m a none = m := by
  funext b
  unfold mup
  split
  · subst b; exact h.symm
  · rfl
/-- a law's statics: the written part, the tables of code objects -/
structure LC where
  K : Frag
  T : List (Addr × Str)
/-- a law's constants: how the pen's keys are called; where the pen stands, its numbers -/
structure LK where
  L : LC
  ka : Str
  kl : Str
  pn : Addr
  cs : List Int
def names : List (Str × V) → List Str := fun l => l.map (·.1)
/-- an exception of the class C at a, its dict dd -/
def ErrO (C : Addr) (dd : Option Addr) (a : Addr) : HO := .ext fun h => ∃ (oe : Obj) (vs : Array Value), h.get? a = some oe ∧ oe.cls = .ref C ∧ oe.dict = dd ∧ oe.data = .fields vs
def ErrF (G : Hp) : Option Addr → List (Str × V) → Prop
  | none, fs => fs = []
  | some d, fs => G d = some (.xd fs)
mutual
def Is (M : LK) (G : Hp) : V → D → Prop
  | v, .non => v = .non
  | v, .bl b => v = .bl b
  | v, .int i => v = .int i
  | v, .str l => v = .str (S l)
  | v, .ty n => v = .ty n
  | v, .ref a => v = .ref a
  | v, .pen => v = .ref M.pn
  | v, .lst xs => ∃ p vs, v = .ref p ∧ G p = some (.lst vs) ∧ IsL M G vs xs
  | v, .tup xs => ∃ p vs, v = .ref p ∧ SqT M.L.K G p vs ∧ IsL M G vs xs
  | v, .ins C ns xs => ∃ p dx fs, v = .ref p ∧ G p = some (.ins C dx fs) ∧ fs.map (·.1) = ns ∧ IsL M G (fs.map (·.2)) xs
  | v, .exc a C dd ns xs => v = .ref a ∧ ∃ fs, ErrF G dd fs ∧ fs.map (·.1) = ns ∧ IsL M G (fs.map (·.2)) xs
  | v, .err C ns xs => ∃ a dd fs, v = .ref a ∧ G a = some (ErrO C dd a) ∧ ErrF G dd fs ∧ fs.map (·.1) = ns ∧ IsL M G (fs.map (·.2)) xs
  | v, .dct => ∃ p, v = .ref p ∧ G p = some (.dK [])
  | v, .scr => ∃ p, v = .ref p ∧ SqL M.L.K G p (M.cs.map V.int)
  | v, .thk f c q σ δ => v = .ref f ∧ G c = some (LamX.CodeO c q) ∧ IsE M G σ δ
  | v, .fn r fr => ∃ f c, v = .ref f ∧ G f = some (FunO f c r fr) ∧ G c = some (LamX.CodeO c r.q)
def IsL (M : LK) (G : Hp) : List V → List D → Prop
  | [], [] => True
  | v :: vs, d :: ds => Is M G v d ∧ IsL M G vs ds
  | _, _ => False
def IsE (M : LK) (G : Hp) : List (Option V) → List (Option D) → Prop
  | [], [] => True
  | v :: vs, d :: ds => IsO M G v d ∧ IsE M G vs ds
  | _, _ => False
def IsO (M : LK) (G : Hp) : Option V → Option D → Prop
  | _, none => True
  | some v, some d => Is M G v d
  | none, some _ => False
end
/-- G grows -/
def Ext (G G' : Hp) : Prop := ∀ a o, G a = some o → G' a = some o
theorem Ext.refl (G : Hp) : Ext G G := fun _ _ h => h
theorem Ext.trans {G G1 G2 : Hp} (a : Ext G G1) (b : Ext G1 G2) : Ext G G2 := fun c o h => b c o (a c o h)
theorem Ext.new {G : Hp} {p : Addr} {o : HO} (h : G p = none) : Ext G (upd G p o) := fun a u e => by
  rw [upd_ne (ne_of_none e h)]
  exact e
theorem Ext.seqT {K : Frag} {G G' : Hp} {a : Addr} {xs : List V} (e : Ext G G') (h : SqT K G a xs) : SqT K G' a xs := by
  rcases h with (h | ⟨o, h⟩) | h
  · exact .inl (.inl (e _ _ h))
  · exact .inl (.inr ⟨o, e _ _ h⟩)
  · exact .inr h
theorem Ext.seqL {K : Frag} {G G' : Hp} {a : Addr} {xs : List V} (e : Ext G G') (h : SqL K G a xs) : SqL K G' a xs := by
  rcases h with (h | ⟨o, h⟩) | h
  · exact .inl (.inl (e _ _ h))
  · exact .inl (.inr ⟨o, e _ _ h⟩)
  · exact .inr h
theorem ErrF.up {G G' : Hp} (e : Ext G G') {dd : Option Addr} {fs : List (Str × V)} (h : ErrF G dd fs) : ErrF G' dd fs := by
  cases dd with
  | none => exact h
  | some d => exact e _ _ h
mutual
theorem Is.up {M : LK} {G G' : Hp} (e : Ext G G') : ∀ (d : D) (v : V), Is M G v d → Is M G' v d
  | .non, _, h => h
  | .bl _, _, h => h
  | .int _, _, h => h
  | .str _, _, h => h
  | .ty _, _, h => h
  | .ref _, _, h => h
  | .pen, _, h => h
  | .lst xs, v, h => by
    simp only [Is] at h ⊢
    obtain ⟨p, vs, h1, h2, h3⟩ := h
    exact ⟨p, vs, h1, e _ _ h2, IsL.up e xs vs h3⟩
  | .tup xs, v, h => by
    simp only [Is] at h ⊢
    obtain ⟨p, vs, h1, h2, h3⟩ := h
    exact ⟨p, vs, h1, e.seqT h2, IsL.up e xs vs h3⟩
  | .ins C ns xs, v, h => by
    simp only [Is] at h ⊢
    obtain ⟨p, dx, fs, h1, h2, h3, h4⟩ := h
    exact ⟨p, dx, fs, h1, e _ _ h2, h3, IsL.up e xs _ h4⟩
  | .exc a C dd ns xs, v, h => by
    simp only [Is] at h ⊢
    obtain ⟨h1, fs, h2, h3, h4⟩ := h
    exact ⟨h1, fs, h2.up e, h3, IsL.up e xs _ h4⟩
  | .err C ns xs, v, h => by
    simp only [Is] at h ⊢
    obtain ⟨a, dd, fs, h1, h2, h3, h4, h5⟩ := h
    exact ⟨a, dd, fs, h1, e _ _ h2, h3.up e, h4, IsL.up e xs _ h5⟩
  | .dct, v, h => by
    simp only [Is] at h ⊢
    obtain ⟨p, h1, h2⟩ := h
    exact ⟨p, h1, e _ _ h2⟩
  | .scr, v, h => by
    simp only [Is] at h ⊢
    obtain ⟨p, h1, h2⟩ := h
    exact ⟨p, h1, e.seqL h2⟩
  | .thk f c q σ δ, v, h => by
    simp only [Is] at h ⊢
    exact ⟨h.1, e _ _ h.2.1, IsE.up e δ σ h.2.2⟩
  | .fn r fr, v, h => by
    simp only [Is] at h ⊢
    obtain ⟨f, c, h1, h2, h3⟩ := h
    exact ⟨f, c, h1, e _ _ h2, e _ _ h3⟩
theorem IsL.up {M : LK} {G G' : Hp} (e : Ext G G') : ∀ (ds : List D) (vs : List V), IsL M G vs ds → IsL M G' vs ds
  | [], [], _ => by simp only [IsL]
  | d :: ds, v :: vs, h => by
    simp only [IsL] at h ⊢
    exact ⟨Is.up e d v h.1, IsL.up e ds vs h.2⟩
  | [], _ :: _, h => by simp only [IsL] at h
  | _ :: _, [], h => by simp only [IsL] at h
theorem IsE.up {M : LK} {G G' : Hp} (e : Ext G G') : ∀ (ds : List (Option D)) (vs : List (Option V)), IsE M G vs ds → IsE M G' vs ds
  | [], [], _ => by simp only [IsE]
  | d :: ds, v :: vs, h => by
    simp only [IsE] at h ⊢
    exact ⟨IsO.up e d v h.1, IsE.up e ds vs h.2⟩
  | [], _ :: _, h => by simp only [IsE] at h
  | _ :: _, [], h => by simp only [IsE] at h
theorem IsO.up {M : LK} {G G' : Hp} (e : Ext G G') : ∀ (d : Option D) (v : Option V), IsO M G v d → IsO M G' v d
  | none, _, _ => by simp only [IsO]
  | some d, some v, h => by
    simp only [IsO] at h ⊢
    exact Is.up e d v h
  | some _, none, h => by simp only [IsO] at h
end
theorem IsL.length {M : LK} {G : Hp} : ∀ {ds : List D} {vs : List V}, IsL M G vs ds → vs.length = ds.length
  | [], [], _ => rfl
  | d :: ds, v :: vs, h => by
    simp only [IsL] at h
    simp only [List.length_cons, IsL.length h.2]
  | [], _ :: _, h => by simp only [IsL] at h
  | _ :: _, [], h => by simp only [IsL] at h
theorem IsL.get {M : LK} {G : Hp} : ∀ {ds : List D} {vs : List V} {i : Nat} {d : D}, IsL M G vs ds → ds[i]? = some d → ∃ v, vs[i]? = some v ∧ Is M G v d
  | [], [], i, d, _, e => by simp at e
  | x :: ds, v :: vs, 0, d, h, e => by
    simp only [IsL] at h
    simp at e
    subst e
    exact ⟨v, rfl, h.1⟩
  | x :: ds, v :: vs, i + 1, d, h, e => by
    simp only [IsL] at h
    obtain ⟨u, h1, h2⟩ := IsL.get (i := i) h.2 (by simpa using e)
    exact ⟨u, by simpa using h1, h2⟩
  | [], _ :: _, _, _, h, _ => by simp only [IsL] at h
  | _ :: _, [], _, _, h, _ => by simp only [IsL] at h
theorem IsL.append {M : LK} {G : Hp} : ∀ {ds es : List D} {vs us : List V}, IsL M G vs ds → IsL M G us es → IsL M G (vs ++ us) (ds ++ es)
  | [], _, [], _, _, g => g
  | d :: ds, es, v :: vs, us, h, g => by
    simp only [IsL, List.cons_append] at h ⊢
    exact ⟨h.1, IsL.append h.2 g⟩
  | [], _, _ :: _, _, h, _ => by simp only [IsL] at h
  | _ :: _, _, [], _, h, _ => by simp only [IsL] at h
theorem IsL.take {M : LK} {G : Hp} : ∀ {ds : List D} {vs : List V} (n : Nat), IsL M G vs ds → IsL M G (vs.take n) (ds.take n)
  | _, _, 0, _ => by simp only [List.take_zero, IsL]
  | [], [], n + 1, _ => by simp only [List.take_nil, IsL]
  | d :: ds, v :: vs, n + 1, h => by
    simp only [IsL, List.take_succ_cons] at h ⊢
    exact ⟨h.1, IsL.take n h.2⟩
  | [], _ :: _, _ + 1, h => by simp only [IsL] at h
  | _ :: _, [], _ + 1, h => by simp only [IsL] at h
theorem IsL.drop {M : LK} {G : Hp} : ∀ {ds : List D} {vs : List V} (n : Nat), IsL M G vs ds → IsL M G (vs.drop n) (ds.drop n)
  | _, _, 0, h => h
  | [], [], n + 1, _ => by simp only [List.drop_nil, IsL]
  | d :: ds, v :: vs, n + 1, h => by
    simp only [IsL, List.drop_succ_cons] at h ⊢
    exact IsL.drop n h.2
  | [], _ :: _, _ + 1, h => by simp only [IsL] at h
  | _ :: _, [], _ + 1, h => by simp only [IsL] at h
/-- the pen: a dict of three entries; at below n -/
structure PenOk (K : Frag) (ka kl : Str) (cs : List Int) (pn : Addr) (n : Nat) (G H : Hp) : Prop where
  ob : ∃ (la : Addr) (ns : List Int) (a l : Int), H pn = some (.dK [(.inr "cells", .ref la), (.inr ka, .int a), (.inr kl, .int l)]) ∧ G la = some (.lst (ns.map V.int)) ∧ ns.length ≤ 63 ∧ 0 ≤ a ∧ a ≤ n ∧ 0 ≤ l ∧ ns = cs
  fr : G pn = none
def notTbl (o : HO) : Prop := ∀ ps, o ≠ .tbl ps
/-- what stands at a place that may change -/
def MIs (M : LK) (G : Hp) : HO → MO → Prop
  | .lst vs, .lst xs => IsL M G vs xs
  | .ins C dx fs, .ins C' dx' ns xs => C = C' ∧ dx = dx' ∧ fs.map (·.1) = ns ∧ IsL M G (fs.map (·.2)) xs
  | .dK kvs, .dic ks xs => kvs.map (·.1) = ks ∧ IsL M G (kvs.map (·.2)) xs
  | .rng a b, .rng c d => a = c ∧ b = d
  | _, _ => False
theorem MIs.up {M : LK} {G G' : Hp} {h : HO} {o : MO} (e : Ext G G') (i : MIs M G h o) : MIs M G' h o := by
  cases h <;> cases o <;> simp only [MIs] at i ⊢
  · exact IsL.up e _ _ i
  · exact ⟨i.1, IsL.up e _ _ i.2⟩
  · exact ⟨i.1, i.2.1, i.2.2.1, IsL.up e _ _ i.2.2.2⟩
  · exact i
theorem MIs.nt {M : LK} {G : Hp} {h : HO} {o : MO} (i : MIs M G h o) : notTbl h := fun ps z => by
  subst z
  cases o <;> simp only [MIs] at i
structure EnvIs (M : LK) (G : Hp) (σ : L2.St) (δ : List (Option D)) : Prop where
  len : σ.length = δ.length
  at_ : ∀ (i : Nat) (d : D), δ[i]? = some (some d) → ∃ v, σ[i]? = some (some v) ∧ Is M G v d
structure Rep (M : LK) (pn : Addr) (G : Hp) (n : NS) (σ : L2.St) (δ : List (Option D)) (H : Hp) : Prop where
  ex : Ext G H
  pen : PenOk M.L.K M.ka M.kl M.cs pn n.at_ G H
  tab : LamX.Tabs M.L.T H
  nt : ∀ a o, G a = some o → notTbl o
  pe : pn = M.pn
  mu : ∀ a o, n.mu a = some o → ∃ h, H a = some h ∧ MIs M G h o ∧ G a = none ∧ a ≠ pn
  env : EnvIs M G σ δ
/-- from (G, H) on to (G', H'): what is known stays -/
structure Adv (pn : Addr) (G H G' H' : Hp) : Prop where
  ge : Ext G G'
theorem Adv.refl {pn : Addr} {G H : Hp} : Adv pn G H G H := ⟨Ext.refl _⟩
theorem Adv.trans {pn : Addr} {G H G1 H1 G2 H2 : Hp} (a : Adv pn G H G1 H1) (b : Adv pn G1 H1 G2 H2) : Adv pn G H G2 H2 := ⟨a.ge.trans b.ge⟩
theorem notTbl_dK {kvs : List (Key × V)} : notTbl (.dK kvs) := fun ps z => by cases z
theorem notTbl_lst {xs : List V} : notTbl (.lst xs) := fun ps z => by cases z
theorem notTbl_tup {xs : List V} : notTbl (.tup xs) := fun ps z => by cases z
theorem notTbl_ins {C dx : Addr} {fs : List (Str × V)} : notTbl (.ins C dx fs) := fun ps z => by cases z
section
variable {M : LK} {pn : Addr} {G G' H H' : Hp} {n n' : NS} {σ : L2.St} {δ : List (Option D)}
theorem Rep.hp (R : Rep M pn G n σ δ H) : ∃ kvs, H pn = some (.dK kvs) := by
  obtain ⟨la, ns, a, l, h, _⟩ := R.pen.ob
  exact ⟨_, h⟩
theorem Rep.tr (R : Rep M pn G n σ δ H) {G1 H1 : Hp} (a : Adv pn G H G' H') (b : Adv pn G' H' G1 H1) : Adv pn G H G1 H1 := a.trans b
theorem EnvIs.up (A : Adv pn G H G' H') (E : EnvIs M G σ δ) : EnvIs M G' σ δ where
  len := E.len
  at_ := fun i d e => by
    obtain ⟨v, h1, h2⟩ := E.at_ i d e
    exact ⟨v, h1, Is.up A.ge d v h2⟩
theorem Rep.gnone {a : Addr} (R : Rep M pn G n σ δ H) (h : H a = none) : G a = none := by
  cases e : G a with
  | none => rfl
  | some u => rw [R.ex _ _ e] at h; cases h
theorem Rep.munone {a : Addr} (R : Rep M pn G n σ δ H) (h : H a = none) : n.mu a = none := by
  cases e : n.mu a with
  | none => rfl
  | some o =>
    obtain ⟨u, h1, _⟩ := R.mu a o e
    rw [h] at h1; cases h1
theorem Rep.penne {p : Addr} (R : Rep M pn G n σ δ H) (h : H p = none) : pn ≠ p := by
  obtain ⟨kvs, hk⟩ := R.hp
  exact ne_of_none hk h
theorem PenOk.new {K : Frag} {ka kl : Str} {cs : List Int} {m : Nat} {p : Addr} {o : HO} (P : PenOk K ka kl cs pn m G H) (np : pn ≠ p) : PenOk K ka kl cs pn m G (upd H p o) := by
  obtain ⟨la, ns, a, l, h1, h2⟩ := P.ob
  exact ⟨⟨la, ns, a, l, by rw [upd_ne np]; exact h1, h2⟩, P.fr⟩
theorem PenOk.grow {K : Frag} {ka kl : Str} {cs : List Int} {m : Nat} {p : Addr} {o : HO} (P : PenOk K ka kl cs pn m G H) (np : pn ≠ p) (gp : G p = none) : PenOk K ka kl cs pn m (upd G p o) H := by
  obtain ⟨la, ns, a, l, h1, h2, h3⟩ := P.ob
  exact ⟨⟨la, ns, a, l, h1, by rw [upd_ne (ne_of_none h2 gp)]; exact h2, h3⟩, by rw [upd_ne np]; exact P.fr⟩
/-- a new object is laid, known from now on -/
theorem Rep.lay {p : Addr} {o : HO} (R : Rep M pn G n σ δ H) (h : H p = none) (ho : notTbl o) : Rep M pn (upd G p o) n σ δ (upd H p o) ∧ Adv pn G H (upd G p o) (upd H p o) := by
  have gp := R.gnone h
  have np := R.penne h
  have A : Adv pn G H (upd G p o) (upd H p o) := ⟨Ext.new gp⟩
  refine ⟨⟨fun a u e => ?_, (R.pen.new np).grow np gp, R.tab.ext fun b u e => by rw [upd_ne (ne_of_none e h)]; exact e, fun a u e => ?_, R.pe, fun a u e => ?_, R.env.up A⟩, A⟩
  · by_cases z : a = p
    · subst z; rw [upd_same] at e ⊢; exact e
    · rw [upd_ne z] at e ⊢; exact R.ex _ _ e
  · by_cases z : a = p
    · subst z; rw [upd_same] at e; cases e; exact ho
    · rw [upd_ne z] at e; exact R.nt _ _ e
  · obtain ⟨x, h1, h2, h3, h4⟩ := R.mu a u e
    have z := ne_of_none h1 h
    exact ⟨x, by rw [upd_ne z]; exact h1, h2.up A.ge, by rw [upd_ne z]; exact h3, h4⟩
/-- a new object that may change -/
theorem Rep.mak {p : Addr} {o : HO} {u : MO} (R : Rep M pn G n σ δ H) (h : H p = none) (i : MIs M G o u) : Rep M pn G ⟨n.at_, mup n.mu p (some u)⟩ σ δ (upd H p o) ∧ Adv pn G H G (upd H p o) := by
  have gp := R.gnone h
  have np := R.penne h
  refine ⟨⟨fun a x e => ?_, R.pen.new np, R.tab.ext fun b x e => by rw [upd_ne (ne_of_none e h)]; exact e, R.nt, R.pe, fun a x e => ?_, R.env⟩, ⟨Ext.refl _⟩⟩
  · have : a ≠ p := fun z => by rw [z, gp] at e; cases e
    rw [upd_ne this]; exact R.ex _ _ e
  · by_cases z : a = p
    · subst z
      rw [show (⟨n.at_, mup n.mu a (some u)⟩ : NS).mu a = some u from mup_same] at e
      cases e
      exact ⟨o, upd_same, i, gp, Ne.symm np⟩
    · rw [show (⟨n.at_, mup n.mu p (some u)⟩ : NS).mu a = n.mu a from mup_ne z] at e
      obtain ⟨y, h1, h2, h3, h4⟩ := R.mu a x e
      exact ⟨y, by rw [upd_ne z]; exact h1, h2, h3, h4⟩
theorem tabs_upd {T : List (Addr × Str)} {p : Addr} {o u : HO} (h : LamX.Tabs T H) (hp : H p = some u) (hu : notTbl u) (hc : ∀ c q, u ≠ LamX.CodeO c q) : LamX.Tabs T (upd H p o) := fun q hq => by
  obtain ⟨ps, h1, h2, h3⟩ := h q hq
  refine ⟨ps, by rw [upd_ne (fun z => by rw [z, hp] at h1; cases h1; exact hu _ rfl)]; exact h1, h2, fun pos cv hcv => ?_⟩
  obtain ⟨c, e1, e2⟩ := h3 pos cv hcv
  exact ⟨c, e1, by rw [upd_ne (fun z => by rw [z, hp] at e2; cases e2; exact hc _ _ rfl)]; exact e2⟩
theorem MIs.nc {h : HO} {o : MO} (i : MIs M G h o) (c : Addr) (q : Str) : h ≠ LamX.CodeO c q := fun z => by
  subst z
  unfold LamX.CodeO at i
  cases o <;> simp only [MIs] at i
/-- .. is changed -/
theorem Rep.chg {p : Addr} {o : HO} {u u0 : MO} (R : Rep M pn G n σ δ H) (h : n.mu p = some u0) (i : MIs M G o u) : Rep M pn G ⟨n.at_, mup n.mu p (some u)⟩ σ δ (upd H p o) := by
  obtain ⟨x0, g1, g2, g3, g4⟩ := R.mu p u0 h
  refine ⟨fun a x e => ?_, R.pen.new (Ne.symm g4), tabs_upd R.tab g1 g2.nt g2.nc, R.nt, R.pe, fun a x e => ?_, R.env⟩
  · have : a ≠ p := fun z => by rw [z, g3] at e; cases e
    rw [upd_ne this]; exact R.ex _ _ e
  · by_cases z : a = p
    · subst z
      rw [show (⟨n.at_, mup n.mu a (some u)⟩ : NS).mu a = some u from mup_same] at e
      cases e
      exact ⟨o, upd_same, i, g3, g4⟩
    · rw [show (⟨n.at_, mup n.mu p (some u)⟩ : NS).mu a = n.mu a from mup_ne z] at e
      obtain ⟨y, h1, h2, h3, h4⟩ := R.mu a x e
      exact ⟨y, by rw [upd_ne z]; exact h1, h2, h3, h4⟩
/-- .. becomes known: it changes no more -/
theorem Rep.frz {p : Addr} {u : MO} (R : Rep M pn G n σ δ H) (h : n.mu p = some u) : ∃ o, H p = some o ∧ MIs M G o u ∧ Rep M pn (upd G p o) ⟨n.at_, mup n.mu p none⟩ σ δ H ∧ Adv pn G H (upd G p o) H ∧ G p = none := by
  obtain ⟨o, g1, g2, g3, g4⟩ := R.mu p u h
  have A : Adv pn G H (upd G p o) H := ⟨Ext.new g3⟩
  refine ⟨o, g1, g2, ⟨fun a x e => ?_, R.pen.grow (Ne.symm g4) g3, R.tab, fun a x e => ?_, R.pe, fun a x e => ?_, R.env.up A⟩, A, g3⟩
  · by_cases z : a = p
    · subst z; rw [upd_same] at e; cases e; exact g1
    · rw [upd_ne z] at e; exact R.ex _ _ e
  · by_cases z : a = p
    · subst z; rw [upd_same] at e; cases e; exact g2.nt
    · rw [upd_ne z] at e; exact R.nt _ _ e
  · have z : a ≠ p := fun z => by
      subst z
      rw [show (⟨n.at_, mup n.mu a none⟩ : NS).mu a = none from mup_same] at e
      cases e
    rw [show (⟨n.at_, mup n.mu p none⟩ : NS).mu a = n.mu a from mup_ne z] at e
    obtain ⟨y, h1, h2, h3, h4⟩ := R.mu a x e
    exact ⟨y, h1, h2.up A.ge, by rw [upd_ne z]; exact h3, h4⟩
/-- less is told: more draws, fewer objects -/
def NS.Sub (n' n : NS) : Prop := n.at_ ≤ n'.at_ ∧ ∀ a o, n'.mu a = some o → n.mu a = some o
theorem NS.Sub.refl (n : NS) : NS.Sub n n := ⟨Nat.le_refl _, fun _ _ h => h⟩
theorem Rep.sub (R : Rep M pn G n σ δ H) (h : NS.Sub n' n) : Rep M pn G n' σ δ H := by
  obtain ⟨la, ns, a, l, h1, h2, h3, h4, h5, h6⟩ := R.pen.ob
  have := h.1
  exact ⟨R.ex, ⟨⟨la, ns, a, l, h1, h2, h3, h4, by omega, h6⟩, R.pen.fr⟩, R.tab, R.nt, R.pe, fun a o e => R.mu a o (h.2 a o e), R.env⟩
theorem getO {α : Type} {l : List (Option α)} {i : Nat} {x : Option α} {y : Option α} (h : (l.set i x)[i]? = some y) : y = x := by
  by_cases hi : i < l.length
  · rw [List.getElem?_set_self hi] at h
    exact (Option.some.inj h).symm
  · rw [List.getElem?_eq_none (by simp; omega)] at h
    cases h
/-- a slot is stored -/
theorem EnvIs.set {i : Nat} {v : V} {d : D} (E : EnvIs M G σ δ) (h : Is M G v d) : EnvIs M G (σ.set i (some v)) (δ.set i (some d)) where
  len := by simp [E.len]
  at_ := fun j x e => by
    by_cases hj : i = j
    · subst hj
      have e' := getO e
      cases e'
      have hi : i < σ.length := by
        rw [E.len]
        by_cases q : i < δ.length
        · exact q
        · rw [List.getElem?_eq_none (by simp; omega)] at e
          cases e
      exact ⟨v, List.getElem?_set_self hi, h⟩
    · rw [List.getElem?_set_ne hj] at e ⊢
      exact E.at_ j x e
theorem EnvIs.get {i : Nat} {d : D} (E : EnvIs M G σ δ) (h : δ[i]? = some (some d)) : ∃ v, σ[i]? = some (some v) ∧ Is M G v d := E.at_ i d h
end
/-! ### the readings -/
abbrev DEnv := List (Option D)
/-- an exception: its class, its fields -/
abbrev DX := List (Option D) → Addr → List Str → List D → NS → Prop
abbrev DTE := DEnv → NS → (D → NS → Prop) → DX → Prop
abbrev DTT := DEnv → NS → (Bool → NS → Prop) → DX → Prop
abbrev DTA := DEnv → NS → (List D → NS → Prop) → DX → Prop
structure DEnds where
  nx : DEnv → NS → Prop
  rt : D → NS → Prop
  bk : DEnv → NS → Prop := fun _ _ => False
  ct : DEnv → NS → Prop := fun _ _ => False
  ex : DX := fun _ _ _ _ _ => False
abbrev DTS := DEnds → DEnv → NS → Prop
/-- the dict at a of an exception -/
def XIs (M : LK) (G : Hp) (a : Option Addr) (ns : List Str) (ds : List D) : Prop := ∃ fs, ErrF G a fs ∧ fs.map (·.1) = ns ∧ IsL M G (fs.map (·.2)) ds
def XEnd (M : LK) (W : WX) (pn : Addr) (G : Hp) (σ : L2.St) (δ : DEnv) (H : Hp) (e : DX) : Prop :=
  ∀ G' C a ns ds n' H', Adv pn G H G' H' → Rep M pn G' n' σ δ H' → XIs M G' a ns ds → e δ C ns ds n' → W (.ref C) a σ H'
def liftE (M : LK) (W : WX) (f : DTE) : TE := fun σ H Q => ∃ pn G n δ q e, Rep M pn G n σ δ H ∧ f δ n q e ∧
  (∀ G' v d n' H', Adv pn G H G' H' → Rep M pn G' n' σ δ H' → Is M G' v d → q d n' → Q v H') ∧ XEnd M W pn G σ δ H e
def liftT (M : LK) (W : WX) (f : DTT) : TT := fun σ H Q => ∃ pn G n δ q e, Rep M pn G n σ δ H ∧ f δ n q e ∧
  (∀ G' b n' H', Adv pn G H G' H' → Rep M pn G' n' σ δ H' → q b n' → Q b H') ∧ XEnd M W pn G σ δ H e
def liftA (M : LK) (W : WX) (f : DTA) : TA := fun σ H Q => ∃ pn G n δ q e, Rep M pn G n σ δ H ∧ f δ n q e ∧
  (∀ G' vs ds n' H', Adv pn G H G' H' → Rep M pn G' n' σ δ H' → IsL M G' vs ds → q ds n' → Q vs H') ∧ XEnd M W pn G σ δ H e
structure SEnd (M : LK) (W : WX) (pn : Addr) (G : Hp) (H : Hp) (D₀ : Ends) (k : DEnds) : Prop where
  nx : ∀ G' σ' δ' n' H', Adv pn G H G' H' → Rep M pn G' n' σ' δ' H' → k.nx δ' n' → D₀.nx σ' H'
  rt : ∀ G' σ' δ' v d n' H', Adv pn G H G' H' → Rep M pn G' n' σ' δ' H' → Is M G' v d → k.rt d n' → D₀.rt v H'
  bk : ∀ G' σ' δ' n' H', Adv pn G H G' H' → Rep M pn G' n' σ' δ' H' → k.bk δ' n' → D₀.bk σ' H'
  ct : ∀ G' σ' δ' n' H', Adv pn G H G' H' → Rep M pn G' n' σ' δ' H' → k.ct δ' n' → D₀.ct σ' H'
  ex : ∀ G' σ' δ' C a ns ds n' H', Adv pn G H G' H' → Rep M pn G' n' σ' δ' H' → XIs M G' a ns ds → k.ex δ' C ns ds n' → W (.ref C) a σ' H'
def liftS (M : LK) (W : WX) (f : DTS) : TS := fun D₀ σ H => ∃ pn G n δ k, Rep M pn G n σ δ H ∧ f k δ n ∧ SEnd M W pn G H D₀ k
/-- weakening -/
theorem PEw {X : Cx} {e : Expr} {t t' : TE} (h : PE X e t) (w : ∀ σ H Q, t' σ H Q → t σ H Q) : PE X e t' := ⟨fun pins s σ H Q I q => h.run pins s σ H Q I (w _ _ _ q)⟩
theorem PTw {X : Cx} {e : Expr} {t t' : TT} (h : PT X e t) (w : ∀ σ H Q, t' σ H Q → t σ H Q) : PT X e t' := ⟨fun pins s σ H Q I q => h.run pins s σ H Q I (w _ _ _ q)⟩
theorem PAw {X : Cx} {e : List Expr} {t t' : TA} (h : PA X e t) (w : ∀ σ H Q, t' σ H Q → t σ H Q) : PA X e t' := ⟨fun pos pins s σ H Q I q => h.run pos pins s σ H Q I (w _ _ _ q)⟩
theorem PSw {X : Cx} {e : Stmt} {t t' : TS} (h : PS X e t) (w : ∀ D σ H, t' D σ H → t D σ H) : PS X e t' := ⟨fun pins s σ H D I q => h.run pins s σ H D I (w _ _ _ q)⟩
theorem PSsw {X : Cx} {e : List Stmt} {t t' : TS} (h : PSs X e t) (w : ∀ D σ H, t' D σ H → t D σ H) : PSs X e t' := ⟨fun pins s σ H D I q => h.run pins s σ H D I (w _ _ _ q)⟩
theorem XEnd.on {M : LK} {W : WX} {pn : Addr} {G G1 : Hp} {σ : L2.St} {δ : DEnv} {n : NS} {H H1 : Hp} {e : DX} (x : XEnd M W pn G σ δ H e) (R : Rep M pn G n σ δ H) (A : Adv pn G H G1 H1) : XEnd M W pn G1 σ δ H1 e :=
  fun G' C a ns ds n' H' A' R' h q => x G' C a ns ds n' H' (R.tr A A') R' h q
end DL

set_option Elab.async false
set_option linter.all false
set_option maxRecDepth 100000
set_option maxHeartbeats 4000000
set_option autoImplicit false
/-! The data layer: expressions. -/
namespace DL
open PySem PySem.Spec PyProof.Rows L2
/-! ### arguments that are no stars -/
def noStar : Expr → Bool
  | .Starred .. => false
  | _ => true
theorem starEach_cons {e : Expr} {es : List Expr} {env : Env} (h : noStar e = true) : starEach (e :: es) env = (false, eval e env) :: starEach es env := by
  cases e <;> first | rfl | cases h
/-! ### names and constants -/
def dGet (o : Option (Option D)) (q : D → Prop) : Prop := match o with
  | some (some d) => q d
  | _ => False
theorem dGet_some {o : Option (Option D)} {q : D → Prop} (h : dGet o q) : ∃ d, o = some (some d) ∧ q d := by
  match o, h with
  | some (some d), h => exact ⟨d, rfl, h⟩
def dVar (i : Nat) : DTE := fun δ n q _ => dGet δ[i]? fun d => q d n
def dC (d : D) : DTE := fun _ n q _ => q d n
section
variable {X : Cx} {M : LK} {W : WX}
theorem Rep.slot {pn : Addr} {G H : Hp} {n : NS} {σ : L2.St} {δ : DEnv} {i : Nat} {q : D → Prop} (R : Rep M pn G n σ δ H) (h : dGet δ[i]? q) : ∃ v d, σ[i]? = some (some v) ∧ Is M G v d ∧ q d := by
  obtain ⟨d, e, hq⟩ := dGet_some h
  obtain ⟨v, h1, h2⟩ := R.env.get e
  exact ⟨v, d, h1, h2, hq⟩
theorem dp_var {e : Expr} {i : Nat} (h : PE X e (tVar i)) : PE X e (liftE M W (dVar i)) := PEw h fun σ H Q ⟨pn, G, n, δ, q, ex, R, hf, hQ, _⟩ => by
  obtain ⟨v, d, h1, h2, hq⟩ := R.slot hf
  exact ⟨v, h1, hQ G v d n H Adv.refl R h2 hq⟩
theorem dp_c {e : Expr} {v : V} {d : D} (h : PE X e (tC v)) (hi : ∀ G, Is M G v d) : PE X e (liftE M W (dC d)) := PEw h fun σ H Q ⟨pn, G, n, δ, q, ex, R, hf, hQ, _⟩ => hQ G v d n H Adv.refl R (hi G) hf
theorem dp_int {i : Int} {j : Nat} {pos : Pos} : PE X (.Constant (.int i) j pos) (liftE M W (dC (.int i))) := dp_c pe_int fun _ => by simp only [Is]
theorem dp_bl {b : Bool} {j : Nat} {pos : Pos} : PE X (.Constant (.bool b) j pos) (liftE M W (dC (.bl b))) := dp_c pe_bl fun _ => by simp only [Is]
theorem dp_non {j : Nat} {pos : Pos} : PE X (.Constant .none j pos) (liftE M W (dC .non)) := dp_c pe_non fun _ => by simp only [Is]
theorem dp_str {x : Str} (l : List Nat) {j : Nat} {pos : Pos} (h : x = S l := by decide +kernel) : PE X (.Constant (.str x) j pos) (liftE M W (dC (.str l))) := dp_c pe_str fun _ => by simp only [Is]; rw [h]
/-! ### binary operations -/
def DR2 (M : LK) (r : R2) (g : D → D → NS → (D → NS → Prop) → Prop) : Prop := ∀ (pn : Addr) (G : Hp) (n : NS) (σ : L2.St) (δ : DEnv) (H : Hp) (v u : V) (x y : D) (q : D → NS → Prop) (Q : VK), Rep M pn G n σ δ H → Is M G v x → Is M G u y → g x y n q →
  (∀ G' w d n' H', Adv pn G H G' H' → Rep M pn G' n' σ δ H' → Is M G' w d → q d n' → Q w H') → r v u H Q
def dOp (g : D → D → NS → (D → NS → Prop) → Prop) (fa fb : DTE) : DTE := fun δ n q e => fa δ n (fun x n1 => fb δ n1 (fun y n2 => g x y n2 q) e) e
theorem liftE_bin {r : R2} {g : D → D → NS → (D → NS → Prop) → Prop} {fa fb : DTE} (hr : DR2 M r g) (σ : L2.St) (H : Hp) (Q : VK) (h : liftE M W (dOp g fa fb) σ H Q) : tOp r (liftE M W fa) (liftE M W fb) σ H Q := by
  obtain ⟨pn, G, n, δ, q, e, R, hf, hQ, hX⟩ := h
  refine ⟨pn, G, n, δ, _, e, R, hf, fun G1 v x n1 H1 A1 R1 i1 h1 => ?_, hX⟩
  refine ⟨pn, G1, n1, δ, _, e, R1, h1, fun G2 u y n2 H2 A2 R2 i2 h2 => ?_, hX.on R A1⟩
  exact hr pn G2 n2 σ δ H2 v u x y q Q R2 (Is.up A2.ge x v i1) i2 h2 fun G3 w d n3 H3 A3 R3 i3 h3 => hQ G3 w d n3 H3 (R.tr (R.tr A1 A2) A3) R3 i3 h3
theorem dp_op {a b : Expr} {op : Operator} {pos : Pos} {r : R2} {g : D → D → NS → (D → NS → Prop) → Prop} {fa fb : DTE} (ho : OpR X (binaryOp op) r) (hr : DR2 M r g) (ha : PE X a (liftE M W fa)) (hb : PE X b (liftE M W fb)) : PE X (.BinOp a op b pos) (liftE M W (dOp g fa fb)) :=
  PEw (pe_op ho ha hb) (liftE_bin hr)
theorem dp_cmp {a b : Expr} {op : CmpOp} {pos : Pos} {r : R2} {g : D → D → NS → (D → NS → Prop) → Prop} {fa fb : DTE} (ho : OpR X (compareOp op) r) (hr : DR2 M r g) (ha : PE X a (liftE M W fa)) (hb : PE X b (liftE M W fb)) (hm : behindInMarks op b = false) : PE X (.Compare a [op] [b] pos) (liftE M W (dOp g fa fb)) :=
  PEw (pe_cmpR ho ha hb hm) (liftE_bin hr)
/-- a test: the value is a truth -/
def dTest (f : DTE) : DTT := fun δ n q e => f δ n (fun d n1 => match d with | .bl b => q b n1 | _ => False) e
theorem liftT_test {f : DTE} {t : TE} (ht : ∀ σ H Q, liftE M W f σ H Q → t σ H Q) (σ : L2.St) (H : Hp) (Q : Bool → Hp → Prop) (h : liftT M W (dTest f) σ H Q) : t σ H fun x H' => ∃ k, x = .bl k ∧ Q k H' := by
  obtain ⟨pn, G, n, δ, q, e, R, hf, hQ, hX⟩ := h
  refine ht _ _ _ ⟨pn, G, n, δ, _, e, R, hf, fun G1 v d n1 H1 A1 R1 i1 h1 => ?_, hX⟩
  cases d with
  | bl b =>
    simp only [Is] at i1
    exact ⟨b, i1, hQ G1 b n1 H1 A1 R1 h1⟩
  | _ => exact h1.elim
theorem dt_cmp {a b : Expr} {op : CmpOp} {pos : Pos} {r : R2} {g : D → D → NS → (D → NS → Prop) → Prop} {fa fb : DTE} (ho : OpR X (compareOp op) r) (hr : DR2 M r g) (ha : PE X a (liftE M W fa)) (hb : PE X b (liftE M W fb)) (hm : behindInMarks op b = false) : PT X (.Compare a [op] [b] pos) (liftT M W (dTest (dOp g fa fb))) :=
  PTw (pt_cmpR ho ha hb hm) (liftT_test (liftE_bin hr))
theorem dt_val {e : Expr} {f : DTE} (h : PE X e (liftE M W f)) (he : ∀ whole, isTrue e X.env whole = (do let v ← whole; standAt e.pos; holding [v] (truthy v)) := by intro _; rfl) : PT X e (liftT M W (dTest f)) :=
  PTw (pt_val h he) (liftT_test fun _ _ _ h => h)
/-! ### chains -/
def dChain (g g' : D → D → NS → (D → NS → Prop) → Prop) (fa fb fc : DTE) : DTE := fun δ n q e => fa δ n (fun x n1 => fb δ n1 (fun y n2 => g x y n2 fun z n3 => match z with
  | .bl true => fc δ n3 (fun w n4 => g' y w n4 q) e
  | .bl false => q (.bl false) n3
  | _ => False) e) e
theorem liftE_chain {r r' : R2} {g g' : D → D → NS → (D → NS → Prop) → Prop} {fa fb fc : DTE} (hr : DR2 M r g) (hr' : DR2 M r' g') (σ : L2.St) (H : Hp) (Q : VK) (h : liftE M W (dChain g g' fa fb fc) σ H Q) :
    tChain r r' (liftE M W fa) (liftE M W fb) (liftE M W fc) σ H Q := by
  obtain ⟨pn, G, n, δ, q, e, R, hf, hQ, hX⟩ := h
  refine ⟨pn, G, n, δ, _, e, R, hf, fun G1 v x n1 H1 A1 R1 i1 h1 => ?_, hX⟩
  refine ⟨pn, G1, n1, δ, _, e, R1, h1, fun G2 u y n2 H2 A2 R2 i2 h2 => ?_, hX.on R A1⟩
  have A12 := R.tr A1 A2
  refine hr pn G2 n2 σ δ H2 v u x y _ _ R2 (Is.up A2.ge x v i1) i2 h2 fun G3 w d n3 H3 A3 R3 i3 h3 => ?_
  cases d with
  | bl b =>
    simp only [Is] at i3
    refine ⟨b, i3, ?_⟩
    cases b with
    | true =>
      refine iteT ?_
      refine ⟨pn, G3, n3, δ, _, e, R3, h3, fun G4 w' d' n4 H4 A4 R4 i4 h4 => ?_, hX.on R (R.tr A12 A3)⟩
      exact hr' pn G4 n4 σ δ H4 u w' y d' q Q R4 (Is.up (A3.ge.trans A4.ge) y u i2) i4 h4 fun G5 w5 d5 n5 H5 A5 R5 i5 h5 => hQ G5 w5 d5 n5 H5 (R.tr (R.tr (R.tr A12 A3) A4) A5) R5 i5 h5
    | false => exact iteF (hQ G3 (.bl false) (.bl false) n3 H3 (R.tr A12 A3) R3 (by simp only [Is]) h3)
  | _ => exact h3.elim
theorem dp_chain {a b c : Expr} {op op' : CmpOp} {pos : Pos} {r r' : R2} {g g' : D → D → NS → (D → NS → Prop) → Prop} {fa fb fc : DTE} (ho : OpR X (compareOp op) r) (hr : DR2 M r g) (ho' : OpR X (compareOp op') r') (hr' : DR2 M r' g')
    (ha : PE X a (liftE M W fa)) (hb : PE X b (liftE M W fb)) (hc : PE X c (liftE M W fc)) (hm : lastMarks [op, op'] [b, c] = false := by with_unfolding_all rfl) : PE X (.Compare a [op, op'] [b, c] pos) (liftE M W (dChain g g' fa fb fc)) :=
  PEw (pe_chain ho ho' ha hb hc hm) (liftE_chain hr hr')
theorem dt_chain {a b c : Expr} {op op' : CmpOp} {pos : Pos} {r r' : R2} {g g' : D → D → NS → (D → NS → Prop) → Prop} {fa fb fc : DTE} (ho : OpR X (compareOp op) r) (hr : DR2 M r g) (ho' : OpR X (compareOp op') r') (hr' : DR2 M r' g')
    (ha : PE X a (liftE M W fa)) (hb : PE X b (liftE M W fb)) (hc : PE X c (liftE M W fc)) (hm : lastMarks [op, op'] [b, c] = false := by with_unfolding_all rfl) : PT X (.Compare a [op, op'] [b, c] pos) (liftT M W (dTest (dChain g g' fa fb fc))) :=
  PTw (pt_chain ho ho' ha hb hc hm) (liftT_test (liftE_chain hr hr'))
/-! ### and, or, not -/
def dAnd (f g : DTT) : DTT := fun δ n q e => f δ n (fun b n1 => match b with | true => g δ n1 q e | false => q false n1) e
def dOr (f g : DTT) : DTT := fun δ n q e => f δ n (fun b n1 => match b with | true => q true n1 | false => g δ n1 q e) e
def dNot (f : DTT) : DTT := fun δ n q e => f δ n (fun b n1 => q (!b) n1) e
theorem PWw {X : Cx} {e : Expr} {t t' : TT} (h : PW X e t) (w : ∀ σ H Q, t' σ H Q → t σ H Q) : PW X e t' := ⟨fun wh pins s σ H Q I q => h.run wh pins s σ H Q I (w _ _ _ q)⟩
theorem dw_and1 {a : Expr} {pos : Pos} {f : DTT} (ha : PT X a (liftT M W f)) : PW X (.BoolOp .And [a] pos) (liftT M W f) := pw_and1 ha
theorem dw_or1 {a : Expr} {pos : Pos} {f : DTT} (ha : PT X a (liftT M W f)) : PW X (.BoolOp .Or [a] pos) (liftT M W f) := pw_or1 ha
theorem dw_and {a b : Expr} {rest : List Expr} {pos : Pos} {f g : DTT} (ha : PT X a (liftT M W f)) (hb : PW X (.BoolOp .And (b :: rest) pos) (liftT M W g)) : PW X (.BoolOp .And (a :: b :: rest) pos) (liftT M W (dAnd f g)) :=
  PWw (pw_and ha hb) fun σ H Q ⟨pn, G, n, δ, q, e, R, hf, hQ, hX⟩ => by
    refine ⟨pn, G, n, δ, _, e, R, hf, fun G1 b n1 H1 A1 R1 h1 => ?_, hX⟩
    cases b with
    | true => exact iteT ⟨pn, G1, n1, δ, q, e, R1, h1, fun G2 b n2 H2 A2 R2 h2 => hQ G2 b n2 H2 (R.tr A1 A2) R2 h2, hX.on R A1⟩
    | false => exact iteF (hQ G1 false n1 H1 A1 R1 h1)
theorem dw_or {a b : Expr} {rest : List Expr} {pos : Pos} {f g : DTT} (ha : PT X a (liftT M W f)) (hb : PW X (.BoolOp .Or (b :: rest) pos) (liftT M W g)) : PW X (.BoolOp .Or (a :: b :: rest) pos) (liftT M W (dOr f g)) :=
  PWw (pw_or ha hb) fun σ H Q ⟨pn, G, n, δ, q, e, R, hf, hQ, hX⟩ => by
    refine ⟨pn, G, n, δ, _, e, R, hf, fun G1 b n1 H1 A1 R1 h1 => ?_, hX⟩
    cases b with
    | true => exact iteT (hQ G1 true n1 H1 A1 R1 h1)
    | false => exact iteF ⟨pn, G1, n1, δ, q, e, R1, h1, fun G2 b n2 H2 A2 R2 h2 => hQ G2 b n2 H2 (R.tr A1 A2) R2 h2, hX.on R A1⟩
theorem dt_w {e : Expr} {f : DTT} (h : PW X e (liftT M W f)) : PT X e (liftT M W f) := h.pt
theorem dt_not {a : Expr} {pos : Pos} {f : DTT} (ha : PT X a (liftT M W f)) : PT X (.UnaryOp .Not a pos) (liftT M W (dNot f)) :=
  PTw (pt_not ha) fun σ H Q ⟨pn, G, n, δ, q, e, R, hf, hQ, hX⟩ => ⟨pn, G, n, δ, _, e, R, hf, fun G1 b n1 H1 A1 R1 h1 => hQ G1 (!b) n1 H1 A1 R1 h1, hX⟩
/-- .. as values, truths -/
def dAndV (f g : DTE) : DTE := fun δ n q e => f δ n (fun x n1 => match x with | .bl true => g δ n1 q e | .bl false => q (.bl false) n1 | _ => False) e
def dOrV (f g : DTE) : DTE := fun δ n q e => f δ n (fun x n1 => match x with | .bl true => q (.bl true) n1 | .bl false => g δ n1 q e | _ => False) e
def dNotV (f : DTE) : DTE := fun δ n q e => f δ n (fun x n1 => match x with | .bl b => q (.bl (!b)) n1 | _ => False) e
theorem dp_one {a : Expr} {op : BoolOp} {pos : Pos} {f : DTE} (ha : PE X a (liftE M W f)) : PE X (.BoolOp op [a] pos) (liftE M W f) := pe_one ha
theorem dp_and {a b : Expr} {rest : List Expr} {pos : Pos} {f g : DTE} (ha : PE X a (liftE M W f)) (hb : PE X (.BoolOp .And (b :: rest) pos) (liftE M W g)) : PE X (.BoolOp .And (a :: b :: rest) pos) (liftE M W (dAndV f g)) :=
  PEw (pe_and ha hb) fun σ H Q ⟨pn, G, n, δ, q, e, R, hf, hQ, hX⟩ => by
    refine ⟨pn, G, n, δ, _, e, R, hf, fun G1 v d n1 H1 A1 R1 i1 h1 => ?_, hX⟩
    cases d with
    | bl b =>
      simp only [Is] at i1
      refine ⟨b, i1, ?_⟩
      cases b with
      | true => exact iteT ⟨pn, G1, n1, δ, q, e, R1, h1, fun G2 v d n2 H2 A2 R2 i2 h2 => hQ G2 v d n2 H2 (R.tr A1 A2) R2 i2 h2, hX.on R A1⟩
      | false => exact iteF (hQ G1 (.bl false) (.bl false) n1 H1 A1 R1 (by simp only [Is]) h1)
    | _ => exact h1.elim
theorem dp_or {a b : Expr} {rest : List Expr} {pos : Pos} {f g : DTE} (ha : PE X a (liftE M W f)) (hb : PE X (.BoolOp .Or (b :: rest) pos) (liftE M W g)) : PE X (.BoolOp .Or (a :: b :: rest) pos) (liftE M W (dOrV f g)) :=
  PEw (pe_or ha hb) fun σ H Q ⟨pn, G, n, δ, q, e, R, hf, hQ, hX⟩ => by
    refine ⟨pn, G, n, δ, _, e, R, hf, fun G1 v d n1 H1 A1 R1 i1 h1 => ?_, hX⟩
    cases d with
    | bl b =>
      simp only [Is] at i1
      refine ⟨b, i1, ?_⟩
      cases b with
      | true => exact iteT (hQ G1 (.bl true) (.bl true) n1 H1 A1 R1 (by simp only [Is]) h1)
      | false => exact iteF ⟨pn, G1, n1, δ, q, e, R1, h1, fun G2 v d n2 H2 A2 R2 i2 h2 => hQ G2 v d n2 H2 (R.tr A1 A2) R2 i2 h2, hX.on R A1⟩
    | _ => exact h1.elim
theorem dp_not {a : Expr} {pos : Pos} {f : DTE} (ha : PE X a (liftE M W f)) : PE X (.UnaryOp .Not a pos) (liftE M W (dNotV f)) :=
  PEw (pe_not ha) fun σ H Q ⟨pn, G, n, δ, q, e, R, hf, hQ, hX⟩ => by
    refine ⟨pn, G, n, δ, _, e, R, hf, fun G1 v d n1 H1 A1 R1 i1 h1 => ?_, hX⟩
    cases d with
    | bl b =>
      simp only [Is] at i1
      exact ⟨b, i1, hQ G1 (.bl (!b)) (.bl (!b)) n1 H1 A1 R1 (by simp only [Is]) h1⟩
    | _ => exact h1.elim
def dIf (c : DTT) (f g : DTE) : DTE := fun δ n q e => c δ n (fun b n1 => match b with | true => f δ n1 q e | false => g δ n1 q e) e
theorem dp_if {c a b : Expr} {pos : Pos} {tc : DTT} {f g : DTE} (hc : PT X c (liftT M W tc)) (ha : PE X a (liftE M W f)) (hb : PE X b (liftE M W g)) : PE X (.IfExp c a b pos) (liftE M W (dIf tc f g)) :=
  PEw (pe_ifExp hc ha hb) fun σ H Q ⟨pn, G, n, δ, q, e, R, hf, hQ, hX⟩ => by
    refine ⟨pn, G, n, δ, _, e, R, hf, fun G1 b n1 H1 A1 R1 h1 => ?_, hX⟩
    cases b with
    | true => exact iteT ⟨pn, G1, n1, δ, q, e, R1, h1, fun G2 v d n2 H2 A2 R2 i2 h2 => hQ G2 v d n2 H2 (R.tr A1 A2) R2 i2 h2, hX.on R A1⟩
    | false => exact iteF ⟨pn, G1, n1, δ, q, e, R1, h1, fun G2 v d n2 H2 A2 R2 i2 h2 => hQ G2 v d n2 H2 (R.tr A1 A2) R2 i2 h2, hX.on R A1⟩
/-! ### arguments -/
def dNil : DTA := fun _ n q _ => q [] n
def dCons (f : DTE) (g : DTA) : DTA := fun δ n q e => f δ n (fun x n1 => g δ n1 (fun xs n2 => q (x :: xs) n2) e) e
theorem da_nil : PA X [] (liftA M W dNil) := PAw pa_nil fun σ H Q ⟨pn, G, n, δ, q, e, R, hf, hQ, hX⟩ => hQ G [] [] n H Adv.refl R (by simp only [IsL]) hf
theorem da_cons {e : Expr} {es : List Expr} {f : DTE} {g : DTA} (ha : PE X e (liftE M W f)) (hr : PA X es (liftA M W g)) (hs : starEach (e :: es) X.env = (false, eval e X.env) :: starEach es X.env := by exact starEach_cons rfl) : PA X (e :: es) (liftA M W (dCons f g)) :=
  PAw (pa_cons ha hr hs) fun σ H Q ⟨pn, G, n, δ, q, e, R, hf, hQ, hX⟩ => by
    refine ⟨pn, G, n, δ, _, e, R, hf, fun G1 v d n1 H1 A1 R1 i1 h1 => ?_, hX⟩
    refine ⟨pn, G1, n1, δ, _, e, R1, h1, fun G2 vs ds n2 H2 A2 R2 i2 h2 => ?_, hX.on R A1⟩
    exact hQ G2 (v :: vs) (d :: ds) n2 H2 (R.tr A1 A2) R2 (by simp only [IsL]; exact ⟨Is.up A2.ge d v i1, i2⟩) h2
/-- a tuple, a list of written items -/
def dTup (f : DTA) : DTE := fun δ n q e => f δ n (fun xs n1 => xs.length ≤ 100000 ∧ q (.tup xs) n1) e
def dLst (f : DTA) : DTE := fun δ n q e => f δ n (fun xs n1 => xs.length ≤ 100000 ∧ q (.lst xs) n1) e
theorem le_line {n : Nat} (h : n ≤ 100000) : n ≤ sizeLine := Nat.le_trans h (by decide)
theorem dp_tup {es : List Expr} {k : Nat} {pos : Pos} {f : DTA} (h : PA X es (liftA M W f)) (pe : ∀ {t : TA}, PA X es t → PE X (.Tuple es k pos) (tTup t) := by intro _ h; exact pe_tup h) : PE X (.Tuple es k pos) (liftE M W (dTup f)) :=
  PEw (pe h) fun σ H Q ⟨pn, G, n, δ, q, e, R, hf, hQ, hX⟩ => by
    refine ⟨pn, G, n, δ, _, e, R, hf, fun G1 vs ds n1 H1 A1 R1 i1 h1 => ?_, hX⟩
    refine ⟨by rw [i1.length]; exact le_line h1.1, fun p hp => ?_⟩
    obtain ⟨R2, A2⟩ := R1.lay (o := .tup vs) hp notTbl_tup
    exact hQ _ (.ref p) (.tup ds) n1 _ (R.tr A1 A2) R2 (by simp only [Is]; exact ⟨p, vs, rfl, SqT.of upd_same, IsL.up A2.ge ds vs i1⟩) h1.2
theorem dp_lst {es : List Expr} {pos : Pos} {f : DTA} (h : PA X es (liftA M W f)) (pe : ∀ {t : TA}, PA X es t → PE X (.List es pos) (tLst t) := by intro _ h; exact pe_lst h) : PE X (.List es pos) (liftE M W (dLst f)) :=
  PEw (pe h) fun σ H Q ⟨pn, G, n, δ, q, e, R, hf, hQ, hX⟩ => by
    refine ⟨pn, G, n, δ, _, e, R, hf, fun G1 vs ds n1 H1 A1 R1 i1 h1 => ?_, hX⟩
    refine ⟨by rw [i1.length]; exact le_line h1.1, fun p hp => ?_⟩
    obtain ⟨R2, A2⟩ := R1.lay (o := .lst vs) hp notTbl_lst
    exact hQ _ (.ref p) (.lst ds) n1 _ (R.tr A1 A2) R2 (by simp only [Is]; exact ⟨p, vs, rfl, upd_same, IsL.up A2.ge ds vs i1⟩) h1.2
/-- .. a list that may change -/
def dLstM (f : DTA) : DTE := fun δ n q e => f δ n (fun xs n1 => xs.length ≤ 100000 ∧ ∀ p, n1.mu p = none → q (.ref p) ⟨n1.at_, mup n1.mu p (some (.lst xs))⟩) e
theorem dp_lstM {es : List Expr} {pos : Pos} {f : DTA} (h : PA X es (liftA M W f)) (pe : ∀ {t : TA}, PA X es t → PE X (.List es pos) (tLst t) := by intro _ h; exact pe_lst h) : PE X (.List es pos) (liftE M W (dLstM f)) :=
  PEw (pe h) fun σ H Q ⟨pn, G, n, δ, q, e, R, hf, hQ, hX⟩ => by
    refine ⟨pn, G, n, δ, _, e, R, hf, fun G1 vs ds n1 H1 A1 R1 i1 h1 => ?_, hX⟩
    refine ⟨by rw [i1.length]; exact le_line h1.1, fun p hp => ?_⟩
    obtain ⟨R2, A2⟩ := R1.mak (o := .lst vs) (u := .lst ds) hp i1
    exact hQ _ (.ref p) (.ref p) _ _ (R.tr A1 A2) R2 (by simp only [Is]) (h1.2 p (R1.munone hp))
/-- the tree of an object that changes no more -/
def MO.tree : MO → Option D
  | .lst xs => some (.lst xs)
  | .ins C _ ns xs => some (.ins C ns xs)
  | .dic _ _ => none
  | .rng _ _ => none
/-- from here on it changes no more -/
def dFrz (f : DTE) : DTE := fun δ n q e => f δ n (fun d n1 => ∃ a o t, d = .ref a ∧ n1.mu a = some o ∧ o.tree = some t ∧ q t ⟨n1.at_, mup n1.mu a none⟩) e
theorem frz_is {pn a : Addr} {G H : Hp} {n : NS} {σ : L2.St} {δ : DEnv} {o : MO} {t : D} (R : Rep M pn G n σ δ H) (h : n.mu a = some o) (ht : o.tree = some t) : ∃ G1, Rep M pn G1 ⟨n.at_, mup n.mu a none⟩ σ δ H ∧ Adv pn G H G1 H ∧ Is M G1 (.ref a) t := by
  obtain ⟨u, h1, h2, R1, A1, g0⟩ := R.frz h
  refine ⟨_, R1, A1, ?_⟩
  cases o with
  | lst xs =>
    cases ht
    cases u <;> simp only [MIs] at h2
    simp only [Is]
    exact ⟨a, _, rfl, upd_same, IsL.up A1.ge _ _ h2⟩
  | ins C dx ns xs =>
    cases ht
    cases u <;> simp only [MIs] at h2
    obtain ⟨rfl, rfl, h3, h4⟩ := h2
    simp only [Is]
    exact ⟨a, _, _, rfl, upd_same, h3, IsL.up A1.ge _ _ h4⟩
  | dic _ _ => cases ht
  | rng _ _ => cases ht
theorem dp_frz {e : Expr} {f : DTE} (h : PE X e (liftE M W f)) : PE X e (liftE M W (dFrz f)) :=
  PEw h fun σ H Q ⟨pn, G, n, δ, q, e, R, hf, hQ, hX⟩ => by
    refine ⟨pn, G, n, δ, _, e, R, hf, fun G1 v d n1 H1 A1 R1 i1 h1 => ?_, hX⟩
    obtain ⟨a, o, t, rfl, h2, h3, h4⟩ := h1
    obtain ⟨G2, R2, A2, i2⟩ := frz_is R1 h2 h3
    simp only [Is] at i1
    subst i1
    exact hQ G2 (.ref a) t _ _ (R.tr A1 A2) R2 i2 h4
/-! ### calls of built-ins by values -/
def DRC (M : LK) (r : List V → Hp → VK → Prop) (g : List D → NS → (D → NS → Prop) → Prop) : Prop := ∀ (pn : Addr) (G : Hp) (n : NS) (σ : L2.St) (δ : DEnv) (H : Hp) (vs : List V) (xs : List D) (q : D → NS → Prop) (Q : VK), Rep M pn G n σ δ H → IsL M G vs xs → g xs n q →
  (∀ G' w d n' H', Adv pn G H G' H' → Rep M pn G' n' σ δ H' → Is M G' w d → q d n' → Q w H') → r vs H Q
def dCB (g : List D → NS → (D → NS → Prop) → Prop) (f : DTA) : DTE := fun δ n q e => f δ n (fun xs n1 => g xs n1 q) e
theorem dp_cb {e : Expr} {r : List V → Hp → VK → Prop} {g : List D → NS → (D → NS → Prop) → Prop} {f : DTA} (h : PE X e (tCB r (liftA M W f))) (hr : DRC M r g) : PE X e (liftE M W (dCB g f)) :=
  PEw h fun σ H Q ⟨pn, G, n, δ, q, e, R, hf, hQ, hX⟩ => by
    refine ⟨pn, G, n, δ, _, e, R, hf, fun G1 vs ds n1 H1 A1 R1 i1 h1 => ?_, hX⟩
    exact hr pn G1 n1 σ δ H1 vs ds q Q R1 i1 h1 fun G2 w d n2 H2 A2 R2 i2 h2 => hQ G2 w d n2 H2 (R.tr A1 A2) R2 i2 h2
/-- a method of a text -/
def DRM (M : LK) (r : V → List V → Hp → VK → Prop) (g : D → List D → NS → (D → NS → Prop) → Prop) : Prop := ∀ (pn : Addr) (G : Hp) (n : NS) (σ : L2.St) (δ : DEnv) (H : Hp) (v : V) (vs : List V) (x : D) (xs : List D) (q : D → NS → Prop) (Q : VK), Rep M pn G n σ δ H → Is M G v x → IsL M G vs xs → g x xs n q →
  (∀ G' w d n' H', Adv pn G H G' H' → Rep M pn G' n' σ δ H' → Is M G' w d → q d n' → Q w H') → r v vs H Q
def dM0 (g : D → List D → NS → (D → NS → Prop) → Prop) (f : DTE) : DTE := fun δ n q e => f δ n (fun x n1 => match x with | .str l => g (.str l) [] n1 q | _ => False) e
def dM1 (g : D → List D → NS → (D → NS → Prop) → Prop) (f h : DTE) : DTE := fun δ n q e => f δ n (fun x n1 => match x with | .str l => h δ n1 (fun y n2 => g (.str l) [y] n2 q) e | _ => False) e
theorem dp_m0 {e : Expr} {r : V → List V → Hp → VK → Prop} {g : D → List D → NS → (D → NS → Prop) → Prop} {f : DTE} (h : PE X e (tM0 r (liftE M W f))) (hr : DRM M r g) : PE X e (liftE M W (dM0 g f)) :=
  PEw h fun σ H Q ⟨pn, G, n, δ, q, e, R, hf, hQ, hX⟩ => by
    refine ⟨pn, G, n, δ, _, e, R, hf, fun G1 v d n1 H1 A1 R1 i1 h1 => ?_, hX⟩
    cases d with
    | str l =>
      have i1' := i1
      simp only [Is] at i1'
      exact ⟨⟨_, i1'⟩, hr pn G1 n1 σ δ H1 v [] (.str l) [] q Q R1 i1 (by simp only [IsL]) h1 fun G2 w d n2 H2 A2 R2 i2 h2 => hQ G2 w d n2 H2 (R.tr A1 A2) R2 i2 h2⟩
    | _ => exact h1.elim
theorem dp_m1 {e : Expr} {r : V → List V → Hp → VK → Prop} {g : D → List D → NS → (D → NS → Prop) → Prop} {f h : DTE} (hp : PE X e (tM1 r (liftE M W f) (liftE M W h))) (hr : DRM M r g) : PE X e (liftE M W (dM1 g f h)) :=
  PEw hp fun σ H Q ⟨pn, G, n, δ, q, e, R, hf, hQ, hX⟩ => by
    refine ⟨pn, G, n, δ, _, e, R, hf, fun G1 v d n1 H1 A1 R1 i1 h1 => ?_, hX⟩
    cases d with
    | str l =>
      have i1' := i1
      simp only [Is] at i1'
      refine ⟨⟨_, i1'⟩, pn, G1, n1, δ, _, e, R1, h1, fun G2 u y n2 H2 A2 R2 i2 h2 => ?_, hX.on R A1⟩
      exact hr pn G2 n2 σ δ H2 v [u] (.str l) [y] q Q R2 (Is.up A2.ge _ v i1) (by simp only [IsL]; exact ⟨i2, trivial⟩) h2 fun G3 w d n3 H3 A3 R3 i3 h3 => hQ G3 w d n3 H3 (R.tr (R.tr A1 A2) A3) R3 i3 h3
    | _ => exact h1.elim
end
end DL

set_option Elab.async false
set_option linter.all false
set_option maxRecDepth 100000
set_option maxHeartbeats 4000000
set_option autoImplicit false
/-! The data layer: statements, loops, comprehensions. -/
namespace DL
open PySem PySem.Spec PyProof.Rows L2
section
variable {X : Cx} {M : LK} {W : WX}
theorem SEnd.on {pn : Addr} {G G1 H H1 : Hp} {D₀ : Ends} {k : DEnds} {n : NS} {σ : L2.St} {δ : DEnv} (s : SEnd M W pn G H D₀ k) (R : Rep M pn G n σ δ H) (A : Adv pn G H G1 H1) : SEnd M W pn G1 H1 D₀ k where
  nx := fun G' σ' δ' n' H' A' => s.nx G' σ' δ' n' H' (R.tr A A')
  rt := fun G' σ' δ' v d n' H' A' => s.rt G' σ' δ' v d n' H' (R.tr A A')
  bk := fun G' σ' δ' n' H' A' => s.bk G' σ' δ' n' H' (R.tr A A')
  ct := fun G' σ' δ' n' H' A' => s.ct G' σ' δ' n' H' (R.tr A A')
  ex := fun G' σ' δ' C a ns ds n' H' A' => s.ex G' σ' δ' C a ns ds n' H' (R.tr A A')
theorem SEnd.xe {pn : Addr} {G H : Hp} {D₀ : Ends} {k : DEnds} {σ : L2.St} {δ : DEnv} (s : SEnd M W pn G H D₀ k) : XEnd M W pn G σ δ H k.ex := fun G' C a ns ds n' H' A' R' h q => s.ex G' σ δ C a ns ds n' H' A' R' h q
/-! ### blocks -/
def dNext : DTS := fun k δ n => k.nx δ n
def dSeq (f g : DTS) : DTS := fun k δ n => f { k with nx := fun δ' n' => g k δ' n' } δ n
theorem dss_nil : PSs X [] (liftS M W dNext) := PSsw pss_nil fun D₀ σ H ⟨pn, G, n, δ, k, R, hf, s⟩ => s.nx G σ δ n H Adv.refl R hf
theorem dss_cons {st : Stmt} {rest : List Stmt} {f g : DTS} (h1 : PS X st (liftS M W f)) (h2 : PSs X rest (liftS M W g)) : PSs X (st :: rest) (liftS M W (dSeq f g)) :=
  PSsw (pss_cons h1 h2) fun D₀ σ H ⟨pn, G, n, δ, k, R, hf, s⟩ => ⟨pn, G, n, δ, _, R, hf,
    ⟨fun G' σ' δ' n' H' A' R' h => ⟨pn, G', n', δ', k, R', h, s.on R A'⟩, s.rt, s.bk, s.ct, s.ex⟩⟩
theorem dss_one {st : Stmt} {f : DTS} (h1 : PS X st (liftS M W f)) : PSs X [st] (liftS M W f) := pss_one h1
def dBreak : DTS := fun k δ n => k.bk δ n
def dCont : DTS := fun k δ n => k.ct δ n
theorem ds_pass {pos : Pos} : PS X (.Pass pos) (liftS M W dNext) := PSw ps_pass fun D₀ σ H ⟨pn, G, n, δ, k, R, hf, s⟩ => s.nx G σ δ n H Adv.refl R hf
theorem ds_break {pos : Pos} : PS X (.Break pos) (liftS M W dBreak) := PSw ps_break fun D₀ σ H ⟨pn, G, n, δ, k, R, hf, s⟩ => s.bk G σ δ n H Adv.refl R hf
theorem ds_continue {pos : Pos} : PS X (.Continue pos) (liftS M W dCont) := PSw ps_continue fun D₀ σ H ⟨pn, G, n, δ, k, R, hf, s⟩ => s.ct G σ δ n H Adv.refl R hf
def dDrop (f : DTE) : DTS := fun k δ n => f δ n (fun _ n1 => k.nx δ n1) k.ex
theorem ds_expr {e : Expr} {pos : Pos} {f : DTE} (h : PE X e (liftE M W f)) (hs : swapsWith e none pos.line X.env = pure false := by rfl) : PS X (.Expr e pos) (liftS M W (dDrop f)) :=
  PSw (ps_expr h hs) fun D₀ σ H ⟨pn, G, n, δ, k, R, hf, s⟩ => ⟨pn, G, n, δ, _, k.ex, R, hf, fun G' v d n' H' A' R' i' h => s.nx G' σ δ n' H' A' R' h, s.xe⟩
def dRet (f : DTE) : DTS := fun k δ n => f δ n k.rt k.ex
theorem ds_ret {e : Expr} {pos : Pos} {f : DTE} (h : PE X e (liftE M W f)) : PS X (.Return (some e) pos) (liftS M W (dRet f)) :=
  PSw (ps_ret h) fun D₀ σ H ⟨pn, G, n, δ, k, R, hf, s⟩ => ⟨pn, G, n, δ, _, k.ex, R, hf, fun G' v d n' H' A' R' i' h => s.rt G' σ δ v d n' H' A' R' i' h, s.xe⟩
def dRetN : DTS := fun k _ n => k.rt .non n
theorem ds_retN {pos : Pos} : PS X (.Return none pos) (liftS M W dRetN) :=
  PSw ps_retN fun D₀ σ H ⟨pn, G, n, δ, k, R, hf, s⟩ => s.rt G σ δ .non .non n H Adv.refl R (by simp only [Is]) hf
def dIfS (c : DTT) (f g : DTS) : DTS := fun k δ n => c δ n (fun b n1 => match b with | true => f k δ n1 | false => g k δ n1) k.ex
theorem ds_if {c : Expr} {a b : List Stmt} {pos : Pos} {tc : DTT} {f g : DTS} (hc : PT X c (liftT M W tc)) (ha : PSs X a (liftS M W f)) (hb : PSs X b (liftS M W g)) : PS X (.If c a b pos) (liftS M W (dIfS tc f g)) :=
  PSw (ps_if hc ha hb) fun D₀ σ H ⟨pn, G, n, δ, k, R, hf, s⟩ => by
    refine ⟨pn, G, n, δ, _, k.ex, R, hf, fun G1 b n1 H1 A1 R1 h1 => ?_, s.xe⟩
    cases b with
    | true => exact iteT ⟨pn, G1, n1, δ, k, R1, h1, s.on R A1⟩
    | false => exact iteF ⟨pn, G1, n1, δ, k, R1, h1, s.on R A1⟩
theorem ds_never {st : Stmt} : PS X st (liftS M W fun _ _ _ => False) := PSw (t := tNever) ps_never fun D₀ σ H ⟨pn, G, n, δ, k, R, hf, s⟩ => hf
/-! ### targets -/
abbrev DTG := D → DEnv → NS → (DEnv → NS → Prop) → Prop
abbrev DTGs := List D → DEnv → NS → (DEnv → NS → Prop) → Prop
def wipeD (δ : DEnv) : List Nat → DEnv
  | [] => δ
  | v :: vs => (wipeD δ vs).set v none
/-- vs: the slots that may change -/
def liftG (M : LK) (vs : List Nat) (g : DTG) : TG := fun v σ H Q => ∃ pn G n δ d q, Rep M pn G n σ δ H ∧ Is M G v d ∧ g d δ n q ∧ ∀ G' σ' δ' n' H', Adv pn G H G' H' → Rep M pn G' n' σ' δ' H' → wipe σ' vs = wipe σ vs → q δ' n' → Q σ' H'
def liftGs (M : LK) (vs : List Nat) (g : DTGs) : TGs := fun us σ H Q => ∃ pn G n δ ds q, Rep M pn G n σ δ H ∧ IsL M G us ds ∧ g ds δ n q ∧ ∀ G' σ' δ' n' H', Adv pn G H G' H' → Rep M pn G' n' σ' δ' H' → wipe σ' vs = wipe σ vs → q δ' n' → Q σ' H'
theorem PGw {X : Cx} {e : Expr} {t t' : TG} (h : PG X e t) (w : ∀ v σ H Q, t' v σ H Q → t v σ H Q) : PG X e t' := ⟨fun pins s σ H v u Q I r q => h.run pins s σ H v u Q I r (w _ _ _ _ q)⟩
theorem PGsw {X : Cx} {e : List Expr} {t t' : TGs} (h : PGs X e t) (w : ∀ v σ H Q, t' v σ H Q → t v σ H Q) : PGs X e t' := ⟨fun pins s σ H v u Q I r q => h.run pins s σ H v u Q I r (w _ _ _ _ q)⟩
def dgName (i : Nat) : DTG := fun d δ n q => q (δ.set i (some d)) n
theorem wipe_set {σ : L2.St} {i : Nat} {x : Option V} : ∀ {vs : List Nat}, i ∈ vs → wipe (σ.set i x) vs = wipe σ vs
  | v :: vs, h => by
    unfold wipe
    by_cases e : i ∈ vs
    · rw [wipe_set e]
    · have ev : i = v := by
        rcases List.mem_cons.mp h with h | h
        · exact h
        · exact absurd h e
      subst ev
      have : ∀ (σ : L2.St) (ws : List Nat), i ∉ ws → wipe (σ.set i x) ws = (wipe σ ws).set i x := by
        intro σ ws
        induction ws with
        | nil => intro _; rfl
        | cons w ws ih =>
          intro hn
          have h1 : i ≠ w := fun z => hn (by rw [z]; exact List.mem_cons_self)
          have h2 : i ∉ ws := fun z => hn (List.mem_cons_of_mem _ z)
          unfold wipe
          rw [ih h2, List.set_comm _ _ h1]
      rw [this σ vs e, List.set_set]
theorem Rep.put {pn : Addr} {G H : Hp} {n : NS} {σ : L2.St} {δ : DEnv} {i : Nat} {v : V} {d : D} (R : Rep M pn G n σ δ H) (h : Is M G v d) : Rep M pn G n (σ.set i (some v)) (δ.set i (some d)) H := ⟨R.ex, R.pen, R.tab, R.nt, R.pe, R.mu, R.env.set h⟩
theorem dg_of {tg : Expr} {i : Nat} {vs : List Nat} (h : PG X tg (gName i)) (hi : i ∈ vs) : PG X tg (liftG M vs (dgName i)) :=
  PGw h fun v σ H Q ⟨pn, G, n, δ, d, q, R, hi', hg, hQ⟩ => hQ G (σ.set i (some v)) (δ.set i (some d)) n H Adv.refl (R.put hi') (wipe_set hi) hg
def dgNil : DTGs := fun ds δ n q => match ds with | [] => q δ n | _ => False
def dgCons (g : DTG) (gs : DTGs) : DTGs := fun ds δ n q => match ds with | d :: r => g d δ n fun δ' n' => gs r δ' n' q | [] => False
theorem dgs_nil {vs : List Nat} : PGs X [] (liftGs M vs dgNil) := PGsw pgs_nil fun us σ H Q ⟨pn, G, n, δ, ds, q, R, hi, hg, hQ⟩ => by
  cases ds with
  | nil =>
    cases us with
    | nil => exact ⟨rfl, hQ G σ δ n H Adv.refl R rfl hg⟩
    | cons _ _ => simp only [IsL] at hi
  | cons _ _ => exact hg.elim
theorem dgs_cons {e : Expr} {es : List Expr} {vs : List Nat} {g : DTG} {gs : DTGs} (h1 : PG X e (liftG M vs g)) (h2 : PGs X es (liftGs M vs gs)) (hs : (assignEach (e :: es) X.env).map (·.2) = assign e X.env :: (assignEach es X.env).map (·.2) := by rfl) : PGs X (e :: es) (liftGs M vs (dgCons g gs)) :=
  PGsw (pgs_cons h1 h2 hs) fun us σ H Q ⟨pn, G, n, δ, ds, q, R, hi, hg, hQ⟩ => by
    cases ds with
    | nil => exact hg.elim
    | cons d r =>
      cases us with
      | nil => simp only [IsL] at hi
      | cons u ur =>
        simp only [IsL] at hi
        refine ⟨u, ur, rfl, pn, G, n, δ, d, _, R, hi.1, hg, fun G1 σ1 δ1 n1 H1 A1 R1 w1 h1 => ?_⟩
        exact ⟨pn, G1, n1, δ1, r, q, R1, IsL.up A1.ge r ur hi.2, h1, fun G2 σ2 δ2 n2 H2 A2 R2 w2 h2 => hQ G2 σ2 δ2 n2 H2 (R.tr A1 A2) R2 (w2.trans w1) h2⟩
/-- (a, b, ..) = a tuple -/
def dgTup (m : Nat) (gs : DTGs) : DTG := fun d δ n q => match d with | .tup xs => xs.length = m ∧ gs xs δ n q | _ => False
theorem dg_tup {es : List Expr} {k : Nat} {pos : Pos} {m : Nat} {vs : List Nat} {gs : DTGs} (hK : X.K = M.L.K) (hc : X.calm = true) (h : PGs X es (liftGs M vs gs)) (hn : (assignEach es X.env).length = m := by rfl) (hst : (assignEach es X.env).findIdx? (·.1) = none := by rfl) : PG X (.Tuple es k pos) (liftG M vs (dgTup m gs)) :=
  PGw (pg_tup hc h hn hst) fun v σ H Q ⟨pn, G, n, δ, d, q, R, hi, hg, hQ⟩ => by
    cases d with
    | tup xs =>
      simp only [Is] at hi
      obtain ⟨p, us, rfl, h1, h2⟩ := hi
      exact ⟨p, us, rfl, by rw [hK]; exact R.ex.seqT h1, by rw [h2.length]; exact hg.1, pn, G, n, δ, xs, q, R, h2, hg.2, hQ⟩
    | _ => exact hg.elim
/-- target = e -/
def dAsg (f : DTE) (g : DTG) : DTS := fun k δ n => f δ n (fun d n1 => g d δ n1 fun δ' n2 => k.nx δ' n2) k.ex
theorem liftS_asg {f : DTE} {g : DTG} {vs : List Nat} (D₀ : Ends) (σ : L2.St) (H : Hp) (h : liftS M W (dAsg f g) D₀ σ H) : tAsg (liftE M W f) (liftG M vs g) D₀ σ H := by
  obtain ⟨pn, G, n, δ, k, R, hf, s⟩ := h
  refine ⟨pn, G, n, δ, _, k.ex, R, hf, fun G1 v d n1 H1 A1 R1 i1 h1 => ?_, s.xe⟩
  exact ⟨pn, G1, n1, δ, d, _, R1, i1, h1, fun G2 σ2 δ2 n2 H2 A2 R2 _ h2 => s.nx G2 σ2 δ2 n2 H2 (R.tr A1 A2) R2 h2⟩
theorem ds_asg {st : Stmt} {f : DTE} {g : DTG} {vs : List Nat} (h : PS X st (tAsg (liftE M W f) (liftG M vs g))) : PS X st (liftS M W (dAsg f g)) := PSw h liftS_asg
theorem liftS_set {f : DTE} {i : Nat} (D₀ : Ends) (σ : L2.St) (H : Hp) (h : liftS M W (dAsg f (dgName i)) D₀ σ H) : tAsg (liftE M W f) (gName i) D₀ σ H := by
  obtain ⟨pn, G, n, δ, k, R, hf, s⟩ := h
  refine ⟨pn, G, n, δ, _, k.ex, R, hf, fun G1 v d n1 H1 A1 R1 i1 h1 => ?_, s.xe⟩
  exact s.nx G1 (σ.set i (some v)) (δ.set i (some d)) n1 H1 A1 (R1.put i1) h1
theorem ds_set {st : Stmt} {f : DTE} {i : Nat} (h : PS X st (tAsg (liftE M W f) (gName i))) : PS X st (liftS M W (dAsg f (dgName i))) := PSw h liftS_set
/-- a, b = x, y -/
def dPar (i j : Nat) (f : DTA) : DTS := fun k δ n => f δ n (fun ds n1 => match ds with | [x, y] => k.nx ((δ.set i (some x)).set j (some y)) n1 | _ => False) k.ex
theorem ds_par {st : Stmt} {f : DTA} {i j : Nat} (h : PS X st (tPar i j (liftA M W f))) : PS X st (liftS M W (dPar i j f)) :=
  PSw h fun D₀ σ H ⟨pn, G, n, δ, k, R, hf, s⟩ => by
    refine ⟨pn, G, n, δ, _, k.ex, R, hf, fun G1 vs ds n1 H1 A1 R1 i1 h1 => ?_, s.xe⟩
    match ds, vs, i1, h1 with
    | [x, y], [v, w], i1, h1 =>
      simp only [IsL] at i1
      exact ⟨v, w, rfl, s.nx G1 _ _ n1 H1 A1 ((R1.put i1.1).put i1.2.1) h1⟩
    | [x, y], [], i1, _ => simp only [IsL] at i1
    | [x, y], [_], i1, _ => simp only [IsL, and_false] at i1
    | [x, y], _ :: _ :: _ :: _, i1, _ => simp only [IsL, and_false] at i1
    | [], _, _, h1 => exact h1.elim
    | [_], _, _, h1 => exact h1.elim
    | _ :: _ :: _ :: _, _, _, h1 => exact h1.elim
/-! ### while -/
def dWhile (c : DTT) (body : DTS) : DTS := fun k δ n => ∃ Wf : Nat → DEnv → NS → Prop, (∃ m, Wf m δ n) ∧ ∀ m δ n, Wf m δ n → c δ n (fun b n1 => match b with
  | true => ∃ N : DEnv → NS → Prop, (∀ δ' n', N δ' n' → ∃ m', m' < m ∧ Wf m' δ' n') ∧ body { k with nx := N, ct := N, bk := k.nx } δ n1
  | false => k.nx δ n1) k.ex
theorem ds_while {c : Expr} {body : List Stmt} {pos : Pos} {tc : DTT} {f : DTS} (hp : PassesOwn (model X.prog X.w) X.A X.env X.xe) (hc : PT X c (liftT M W tc)) (hb : PSs X body (liftS M W f)) : PS X (.While c body [] pos) (liftS M W (dWhile tc f)) :=
  PSw (ps_while hp hc hb) fun D₀ σ H ⟨pn, G, n, δ, k, R, ⟨Wf, ⟨m0, w0⟩, hw⟩, s⟩ => by
    refine ⟨fun m σ' H' => ∃ G' n' δ', Rep M pn G' n' σ' δ' H' ∧ Adv pn G H G' H' ∧ Wf m δ' n', ⟨m0, G, n, δ, R, Adv.refl, w0⟩, ?_⟩
    rintro m σ1 H1 ⟨G1, n1, δ1, R1, A1, w1⟩
    refine ⟨pn, G1, n1, δ1, _, k.ex, R1, hw m δ1 n1 w1, fun G2 b n2 H2 A2 R2 h2 => ?_, (s.on R A1).xe⟩
    have A12 := R.tr A1 A2
    cases b with
    | true =>
      obtain ⟨N, hN, hb⟩ := h2
      refine iteT ⟨fun σ' H' => ∃ G' n' δ', Rep M pn G' n' σ' δ' H' ∧ Adv pn G H G' H' ∧ N δ' n', fun σ' H' ⟨G', n', δ', R', A', h'⟩ => ?_, pn, G2, n2, δ1, _, R2, hb, ?_⟩
      · obtain ⟨m', hm, w'⟩ := hN δ' n' h'
        exact ⟨m', hm, G', n', δ', R', A', w'⟩
      · have s2 := s.on R A12
        exact ⟨fun G' σ' δ' n' H' A' R' h' => ⟨G', n', δ', R', R.tr A12 A', h'⟩, s2.rt, fun G' σ' δ' n' H' A' R' h' => s2.nx G' σ' δ' n' H' A' R' h', fun G' σ' δ' n' H' A' R' h' => ⟨G', n', δ', R', R.tr A12 A', h'⟩, s2.ex⟩
    | false => exact iteF (s.nx G2 σ1 δ1 n2 H2 A12 R2 h2)
/-! ### what is walked: its items -/
structure Yields (M : LK) (pn : Addr) (G0 H0 : Hp) (J : It) (ds : List D) : Prop where
  go : ∀ i G H n σ δ, Ext G0 G → Rep M pn G n σ δ H → ∀ d, ds[i]? = some d → J.go i H ∧ ∀ x H', J.yld i H x H' → ∃ G', Adv pn G H G' H' ∧ Rep M pn G' n σ δ H' ∧ Is M G' x d
  stop : ∀ G H n σ δ, Ext G0 G → Rep M pn G n σ δ H → J.stop ds.length H
abbrev DTI := DEnv → NS → (List D → NS → Prop) → DX → Prop
def liftI (M : LK) (W : WX) (f : DTI) : TI := fun σ H R => ∃ pn G n δ q e, Rep M pn G n σ δ H ∧ f δ n q e ∧
  (∀ G' ds n' H' J, Adv pn G H G' H' → Rep M pn G' n' σ δ H' → Yields M pn G' H' J ds → q ds n' → R J H') ∧ XEnd M W pn G σ δ H e
theorem PIw {X : Cx} {tg e : Expr} {t t' : TI} (h : PI X tg e t) (w : ∀ σ H Q, t' σ H Q → t σ H Q) : PI X tg e t' := ⟨fun pins s σ H R I q => h.run pins s σ H R I (w _ _ _ q)⟩
def dForL (g : DTG) (body : DTS) : List D → DEnds → DEnv → NS → Prop
  | [], k, δ, n => k.nx δ n
  | d :: ds, k, δ, n => g d δ n fun δ' n' => body { k with nx := fun δ2 n2 => dForL g body ds k δ2 n2, ct := fun δ2 n2 => dForL g body ds k δ2 n2, bk := k.nx } δ' n'
def dFor (it : DTI) (g : DTG) (body : DTS) : DTS := fun k δ n => it δ n (fun ds n1 => dForL g body ds k δ n1) k.ex
theorem ds_for {tg iter : Expr} {body : List Stmt} {pos : Pos} {it : DTI} {g : DTG} {vs : List Nat} {f : DTS} (hp : PassesOwn (model X.prog X.w) X.A X.env X.xe) (hc : X.calm = true) (hi : PI X tg iter (liftI M W it)) (hg : PG X tg (liftG M vs g)) (hb : PSs X body (liftS M W f))
    (hs : ∀ x, foldedSetIterable iter X.env x = pure x := by intro _; rfl) : PS X (.For tg iter body [] pos) (liftS M W (dFor it g f)) :=
  PSw (ps_for hp hc hi hg hb hs) fun D₀ σ H ⟨pn, G, n, δ, k, R, hf, s⟩ => by
    refine ⟨pn, G, n, δ, _, k.ex, R, hf, fun G1 ds n1 H1 J A1 R1 Y h1 => ?_, s.xe⟩
    refine ⟨fun i m σ' H' => m = ds.length - i ∧ i ≤ ds.length ∧ ∃ G' n' δ', Rep M pn G' n' σ' δ' H' ∧ Adv pn G1 H1 G' H' ∧ dForL g f (ds.drop i) k δ' n', ⟨ds.length, rfl, Nat.zero_le _, G1, n1, δ, R1, Adv.refl, h1⟩, ?_⟩
    rintro i m σ2 H2 ⟨rfl, hi, G2, n2, δ2, R2, A2, h2⟩
    have A02 := R.tr A1 A2
    by_cases hlt : i < ds.length
    · obtain ⟨d, hd⟩ : ∃ d, ds[i]? = some d := ⟨ds[i], by simp [hlt]⟩
      have e1 : ds.drop i = d :: ds.drop (i + 1) := by
        rw [List.drop_eq_getElem_cons hlt]
        congr 1
        rw [List.getElem?_eq_getElem hlt] at hd
        exact Option.some.inj hd
      rw [e1] at h2
      obtain ⟨g1, g2⟩ := Y.go i G2 H2 n2 σ2 δ2 A2.ge R2 d hd
      refine .inr ⟨g1, fun σ' H' => ∃ G' n' δ', Rep M pn G' n' σ' δ' H' ∧ Adv pn G1 H1 G' H' ∧ dForL g f (ds.drop (i + 1)) k δ' n', fun σ' H' h' => ⟨ds.length - (i + 1), by omega, rfl, hlt, h'⟩, fun x H3 hy => ?_⟩
      obtain ⟨G3, A3, R3, i3⟩ := g2 x H3 hy
      refine ⟨pn, G3, n2, δ2, d, _, R3, i3, h2, fun G4 σ4 δ4 n4 H4 A4 R4 _ h4 => ?_⟩
      have A24 := R2.tr A3 A4
      have s4 := s.on R (R.tr A02 A24)
      exact ⟨pn, G4, n4, δ4, _, R4, h4, ⟨fun G' σ' δ' n' H' A' R' h' => ⟨G', n', δ', R', R1.tr (R1.tr A2 A24) A', h'⟩, s4.rt, fun G' σ' δ' n' H' A' R' h' => s4.nx G' σ' δ' n' H' A' R' h', fun G' σ' δ' n' H' A' R' h' => ⟨G', n', δ', R', R1.tr (R1.tr A2 A24) A', h'⟩, s4.ex⟩⟩
    · have e : i = ds.length := by omega
      subst e
      rw [List.drop_length] at h2
      exact .inl ⟨Y.stop G2 H2 n2 σ2 δ2 A2.ge R2, s.nx G2 σ2 δ2 n2 H2 A02 R2 h2⟩
/-- the items of a list, a tuple, a text -/
def items : D → Option (List D)
  | .lst xs => some xs
  | .tup xs => some xs
  | .str l => some (l.map fun c => .str [c])
  | _ => none
def diSeq (f : DTE) : DTI := fun δ n q e => f δ n (fun d n1 => match items d with | some ds => q ds n1 | none => False) e
theorem yields_list {pn a : Addr} {G0 H0 : Hp} {vs : List V} {ds : List D} (h : G0 a = some (.lst vs)) (hi : IsL M G0 vs ds) : Yields M pn G0 H0 (Itl M.L.K a) ds where
  go := fun i G H n σ δ A R d hd => by
    have e : H a = some (.lst vs) := R.ex _ _ (A _ _ h)
    obtain ⟨v, h1, h2⟩ := IsL.get (IsL.up A ds vs hi) hd
    refine ⟨⟨vs, v, SqL.of e, h1⟩, fun x H' y => ?_⟩
    obtain ⟨rfl, y⟩ := y
    have ex := y vs (SqL.of e)
    rw [h1] at ex
    cases ex
    exact ⟨G, Adv.refl, R, h2⟩
  stop := fun G H n σ δ A R => ⟨vs, SqL.of (R.ex _ _ (A _ _ h)), by rw [hi.length]; exact Nat.le_refl _⟩
theorem yields_tup {pn a : Addr} {G0 H0 : Hp} {vs : List V} {ds : List D} (h : SqT M.L.K G0 a vs) (hi : IsL M G0 vs ds) : Yields M pn G0 H0 (Itt M.L.K a) ds where
  go := fun i G H n σ δ A R d hd => by
    have e : SqT M.L.K H a vs := R.ex.seqT (Ext.seqT A h)
    obtain ⟨v, h1, h2⟩ := IsL.get (IsL.up A ds vs hi) hd
    refine ⟨⟨vs, v, e, h1⟩, fun x H' y => ?_⟩
    obtain ⟨rfl, y⟩ := y
    have ex := y vs e
    rw [h1] at ex
    cases ex
    exact ⟨G, Adv.refl, R, h2⟩
  stop := fun G H n σ δ A R => ⟨vs, R.ex.seqT (Ext.seqT A h), by rw [hi.length]; exact Nat.le_refl _⟩
theorem yields_str {pn : Addr} {G0 H0 : Hp} {l : List Nat} : Yields M pn G0 H0 (Its (S l)) (l.map fun c => .str [c]) where
  go := fun i G H n σ δ A R d hd => by
    rw [List.getElem?_map] at hd
    cases e : l[i]? with
    | none => rw [e] at hd; cases hd
    | some c =>
      rw [e] at hd
      cases hd
      have hlt := (List.getElem?_eq_some_iff.mp e).1
      refine ⟨by simpa [Its, S] using hlt, fun x H' y => ?_⟩
      obtain ⟨rfl, c', h1, rfl⟩ := y
      have h1' : l[i]? = some c' := by simpa [S] using h1
      rw [e] at h1'
      cases h1'
      exact ⟨G, Adv.refl, R, by simp only [Is]⟩
  stop := fun G H n σ δ A R => by simp [Its, S]
/-- lo, lo + 1, .. -/
def rangeD (lo : Int) (n : Nat) : List D := (List.range n).map fun i => .int (lo + (i : Nat))
theorem yields_range {pn : Addr} {G0 H0 : Hp} {lo : Int} {m : Nat} : Yields M pn G0 H0 (Itr lo m) (rangeD lo m) where
  go := fun i G H n σ δ A R d hd => by
    have hlt : i < m := by
      have := (List.getElem?_eq_some_iff.mp hd).1
      simpa [rangeD] using this
    have e : d = .int (lo + (i : Nat)) := by
      unfold rangeD at hd
      rw [List.getElem?_map, List.getElem?_range hlt] at hd
      exact (Option.some.inj hd).symm
    refine ⟨hlt, fun x H' y => ?_⟩
    obtain ⟨rfl, rfl⟩ := y
    exact ⟨G, Adv.refl, R, by rw [e]; simp only [Is]⟩
  stop := fun G H n σ δ A R => by show m ≤ (rangeD lo m).length; simp [rangeD]
theorem yields_enum {pn a : Addr} {G0 H0 : Hp} {vs : List V} {ds : List D} (h : G0 a = some (.lst vs)) (hi : IsL M G0 vs ds) : Yields M pn G0 H0 (Ite M.L.K a) (ds.zipIdx.map fun p => .tup [.int (p.2 : Nat), p.1]) where
  go := fun i G H n σ δ A R d hd => by
    have e : H a = some (.lst vs) := R.ex _ _ (A _ _ h)
    rw [List.getElem?_map, List.getElem?_zipIdx] at hd
    cases e1 : ds[i]? with
    | none => rw [e1] at hd; cases hd
    | some d1 =>
      rw [e1] at hd
      cases hd
      obtain ⟨v, h1, h2⟩ := IsL.get (IsL.up A ds vs hi) e1
      refine ⟨⟨vs, v, SqL.of e, h1⟩, fun x H' y => ?_⟩
      obtain ⟨T, u, rfl, hT, rfl, y⟩ := y
      have ex := y vs (SqL.of e)
      rw [h1] at ex
      cases ex
      obtain ⟨R2, A2⟩ := R.lay (o := .tup [.int (i : Nat), v]) hT notTbl_tup
      refine ⟨_, A2, R2, ?_⟩
      simp only [Is, IsL, Option.map, Nat.zero_add]
      exact ⟨T, _, rfl, SqT.of upd_same, by simp only [IsL, Is]; exact ⟨trivial, Is.up A2.ge d1 v h2, trivial⟩⟩
  stop := fun G H n σ δ A R => ⟨vs, SqL.of (R.ex _ _ (A _ _ h)), by simp [hi.length]⟩
theorem yields_zip {pn a b : Addr} {G0 H0 : Hp} {vs us : List V} {ds es : List D} (h : G0 a = some (.lst vs)) (hi : IsL M G0 vs ds) (h' : G0 b = some (.lst us)) (hi' : IsL M G0 us es) : Yields M pn G0 H0 (Itz M.L.K a b) ((ds.zip es).map fun p => .tup [p.1, p.2]) where
  go := fun i G H n σ δ A R d hd => by
    have e : H a = some (.lst vs) := R.ex _ _ (A _ _ h)
    have e' : H b = some (.lst us) := R.ex _ _ (A _ _ h')
    rw [List.getElem?_map] at hd
    cases e1 : (ds.zip es)[i]? with
    | none => rw [e1] at hd; cases hd
    | some p =>
      rw [e1] at hd
      cases hd
      obtain ⟨z1, z2⟩ := List.getElem?_zip_eq_some.mp e1
      obtain ⟨v, h1, h2⟩ := IsL.get (IsL.up A ds vs hi) z1
      obtain ⟨u, h3, h4⟩ := IsL.get (IsL.up A es us hi') z2
      refine ⟨⟨vs, us, v, u, SqL.of e, SqL.of e', h1, h3⟩, fun x H' y => ?_⟩
      obtain ⟨T, x1, y1, rfl, hT, rfl, y, y'⟩ := y
      have ex := y vs (SqL.of e)
      rw [h1] at ex
      cases ex
      have ex' := y' us (SqL.of e')
      rw [h3] at ex'
      cases ex'
      obtain ⟨R2, A2⟩ := R.lay (o := .tup [v, u]) hT notTbl_tup
      refine ⟨_, A2, R2, ?_⟩
      simp only [Is]
      exact ⟨T, _, rfl, SqT.of upd_same, by simp only [IsL]; exact ⟨Is.up A2.ge _ v h2, Is.up A2.ge _ u h4, trivial⟩⟩
  stop := fun G H n σ δ A R => ⟨vs, us, SqL.of (R.ex _ _ (A _ _ h)), SqL.of (R.ex _ _ (A _ _ h')), by
    have e1 := hi.length
    have e2 := hi'.length
    rw [List.length_map, List.length_zip]
    omega⟩
theorem di_list {tg l : Expr} {f : DTE} (hK : X.K = M.L.K) (h : PE X l (liftE M W f)) : PI X tg l (liftI M W (diSeq f)) := by
  have key : PI X tg l (fun σ H R => liftE M W f σ H fun x H1 => (∃ a, x = .ref a ∧ (∃ xs, SqL X.K H1 a xs) ∧ R (Itl X.K a) H1) ∨ (∃ a, x = .ref a ∧ (∃ xs, SqT X.K H1 a xs) ∧ R (Itt X.K a) H1) ∨ (∃ z, x = .str z ∧ R (Its z) H1)) := by
    refine ⟨fun pins s σ H R I h' => ?_⟩
    refine thn (h.run pins s σ H _ I h') fun v s1 ⟨x, H1, I1, r1, q1⟩ => ?_
    rcases q1 with ⟨a, e, ⟨xs, hq⟩, q⟩ | ⟨a, e, ⟨xs, hq⟩, q⟩ | ⟨z, e, q⟩
    · subst e
      cases r1
      obtain ⟨its, rv, p, hz⟩ := I1.list hq
      refine wpAny_pyIter_list p.isList ?_
      refine ⟨s1.heap.objs.size, [s1.heap.objs.size], _, _, H1, rfl, I1.kept (t' := s1.toks) fun b o e => Heap.get?_push_of_some _ e, turn_list a _, ⟨_, Heap.get?_push_size _ rfl, rfl, rfl⟩, fun b hb => ?_, q⟩
      have e : b = s1.heap.objs.size := by simpa using hb
      subst e
      exact I1.fpOk (Nat.le_refl _) (I1.hok.fresh (Nat.le_refl _))
    · subst e
      cases r1
      obtain ⟨its, rv, p, hz⟩ := I1.tuple hq
      refine wpAny_pyIter_tuple (show s1.heap.IsTuple a its.toArray from p) ?_
      refine ⟨s1.heap.objs.size, [s1.heap.objs.size], _, _, H1, rfl, I1.kept (t' := s1.toks) fun b o e => Heap.get?_push_of_some _ e, turn_tuple a _, ⟨_, Heap.get?_push_size _ rfl, rfl, rfl⟩, fun b hb => ?_, q⟩
      have e : b = s1.heap.objs.size := by simpa using hb
      subst e
      exact I1.fpOk (Nat.le_refl _) (I1.hok.fresh (Nat.le_refl _))
    · subst e
      obtain ⟨t, rfl⟩ := r1
      cases ha : z.cps.all (· < 128)
      · exact wpAny_pyIter_wide ha (pi_one (tk := s1.toks) I1 _ (turn_str _ z t "str_iterator" (.inr rfl)) ⟨_, Heap.get?_push_size _ rfl, rfl, rfl⟩ q)
      · exact wpAny_pyIter_ascii ha (pi_one (tk := s1.toks) I1 _ (turn_str _ z t "str_ascii_iterator" (.inl rfl)) ⟨_, Heap.get?_push_size _ rfl, rfl, rfl⟩ q)
  refine PIw key fun σ H R' ⟨pn, G, n, δ, q, e, R, hf, hQ, hX⟩ => ⟨pn, G, n, δ, _, e, R, hf, fun G1 v d n1 H1 A1 R1 i1 h1 => ?_, hX⟩
  rw [hK]
  cases d with
  | lst xs =>
    simp only [Is] at i1
    obtain ⟨p, vs, rfl, h2, h3⟩ := i1
    exact .inl ⟨p, rfl, ⟨vs, SqL.of (R1.ex _ _ h2)⟩, hQ G1 xs n1 H1 _ A1 R1 (yields_list h2 h3) h1⟩
  | tup xs =>
    simp only [Is] at i1
    obtain ⟨p, vs, rfl, h2, h3⟩ := i1
    exact .inr (.inl ⟨p, rfl, ⟨vs, R1.ex.seqT h2⟩, hQ G1 xs n1 H1 _ A1 R1 (yields_tup h2 h3) h1⟩)
  | str l =>
    simp only [Is] at i1
    exact .inr (.inr ⟨S l, i1, hQ G1 _ n1 H1 _ A1 R1 yields_str h1⟩)
  | _ => exact h1.elim
def diRange1 (f : DTA) : DTI := fun δ n q e => f δ n (fun xs n1 => match xs with | [.int j] => j < 2 ^ 62 ∧ -(2 ^ 62) ≤ j ∧ q (rangeD 0 j.toNat) n1 | _ => False) e
def diRange2 (f : DTA) : DTI := fun δ n q e => f δ n (fun xs n1 => match xs with | [.int i, .int j] => (-(2 ^ 62) ≤ i ∧ i < 2 ^ 62 ∧ -(2 ^ 62) ≤ j ∧ j < 2 ^ 62) ∧ q (rangeD i (j - i).toNat) n1 | _ => False) e
theorem IsL.ints {M : LK} {G : Hp} : ∀ {is : List Int} {vs : List V}, IsL M G vs (is.map .int) → vs = is.map .int
  | [], [], _ => rfl
  | i :: is, v :: vs, h => by
    simp only [List.map_cons, IsL, Is] at h ⊢
    rw [h.1, IsL.ints h.2]
  | [], _ :: _, h => by simp only [List.map_nil, IsL] at h
  | _ :: _, [], h => by simp only [List.map_cons, IsL] at h
theorem di_range1 {tg : Expr} {e : Expr} {f : DTA} (h : PI X tg e (iRng1 (liftA M W f))) : PI X tg e (liftI M W (diRange1 f)) :=
  PIw h fun σ H R' ⟨pn, G, n, δ, q, e, R, hf, hQ, hX⟩ => by
    refine ⟨pn, G, n, δ, _, e, R, hf, fun G1 vs ds n1 H1 A1 R1 i1 h1 => ?_, hX⟩
    match ds, h1 with
    | [.int j], h1 =>
      obtain rfl := IsL.ints (is := [j]) i1
      exact ⟨j, rfl, h1.2.1, h1.1, hQ G1 _ n1 H1 _ A1 R1 yields_range h1.2.2⟩
theorem di_range2 {tg : Expr} {e : Expr} {f : DTA} (h : PI X tg e (iRng2 (liftA M W f))) : PI X tg e (liftI M W (diRange2 f)) :=
  PIw h fun σ H R' ⟨pn, G, n, δ, q, e, R, hf, hQ, hX⟩ => by
    refine ⟨pn, G, n, δ, _, e, R, hf, fun G1 vs ds n1 H1 A1 R1 i1 h1 => ?_, hX⟩
    match ds, h1 with
    | [.int i, .int j], h1 =>
      obtain rfl := IsL.ints (is := [i, j]) i1
      exact ⟨i, j, rfl, h1.1, hQ G1 _ n1 H1 _ A1 R1 yields_range h1.2⟩
def diEnum (f : DTA) : DTI := fun δ n q e => f δ n (fun xs n1 => match xs with | [.lst ds] => q (ds.zipIdx.map fun p => .tup [.int (p.2 : Nat), p.1]) n1 | _ => False) e
theorem di_enum {tg : Expr} {e : Expr} {f : DTA} (h : PI X tg e (iEnum M.L.K (liftA M W f))) : PI X tg e (liftI M W (diEnum f)) :=
  PIw h fun σ H R' ⟨pn, G, n, δ, q, e, R, hf, hQ, hX⟩ => by
    refine ⟨pn, G, n, δ, _, e, R, hf, fun G1 vs ds n1 H1 A1 R1 i1 h1 => ?_, hX⟩
    match ds, vs, i1, h1 with
    | [.lst xs], [v], i1, h1 =>
      simp only [IsL, Is] at i1
      obtain ⟨⟨p, vs, rfl, h2, h3⟩, _⟩ := i1
      exact ⟨p, vs, rfl, SqL.of (R1.ex _ _ h2), hQ G1 _ n1 H1 _ A1 R1 (yields_enum h2 h3) h1⟩
    | [.lst xs], [], i1, _ => simp only [IsL] at i1
    | [.lst xs], _ :: _ :: _, i1, _ => simp only [IsL, and_false] at i1
def diZip (f : DTA) : DTI := fun δ n q e => f δ n (fun xs n1 => match xs with | [.lst ds, .lst es] => q ((ds.zip es).map fun p => .tup [p.1, p.2]) n1 | _ => False) e
theorem di_zip {tg : Expr} {e : Expr} {f : DTA} (h : PI X tg e (iZip M.L.K (liftA M W f))) : PI X tg e (liftI M W (diZip f)) :=
  PIw h fun σ H R' ⟨pn, G, n, δ, q, e, R, hf, hQ, hX⟩ => by
    refine ⟨pn, G, n, δ, _, e, R, hf, fun G1 vs ds n1 H1 A1 R1 i1 h1 => ?_, hX⟩
    match ds, vs, i1, h1 with
    | [.lst xs, .lst ys], [v, u], i1, h1 =>
      simp only [IsL, Is] at i1
      obtain ⟨⟨p, vs, rfl, h2, h3⟩, ⟨p', vs', rfl, h2', h3'⟩, _⟩ := i1
      exact ⟨p, p', vs, vs', rfl, SqL.of (R1.ex _ _ h2), SqL.of (R1.ex _ _ h2'), hQ G1 _ n1 H1 _ A1 R1 (yields_zip h2 h3 h2' h3') h1⟩
    | [.lst xs, .lst ys], [], i1, _ => simp only [IsL] at i1
    | [.lst xs, .lst ys], [_], i1, _ => simp only [IsL, and_false] at i1
    | [.lst xs, .lst ys], _ :: _ :: _ :: _, i1, _ => simp only [IsL, and_false] at i1
end
end DL

set_option Elab.async false
set_option linter.all false
set_option maxRecDepth 100000
set_option maxHeartbeats 4000000
set_option autoImplicit false
/-! The data layer: comprehensions, defs, operations by values. -/
namespace DL
open PySem PySem.Spec PyProof.Rows L2
section
variable {X : Cx} {M : LK} {W : WX} {pn : Addr} {G G1 H H1 : Hp} {n : NS} {σ : L2.St} {δ : DEnv}
def noX : DX := fun _ _ _ _ _ => False
def W0 : WX := fun _ _ _ _ => False
theorem XEnd.no {e : DX} (h : ∀ δ C ns ds n, ¬ e δ C ns ds n) : XEnd M W pn G σ δ H e := fun G' C a ns ds n' H' A' R' hx q => (h _ C ns ds n' q).elim
theorem noX_no : ∀ δ C ns ds n, ¬ noX δ C ns ds n := fun _ _ _ _ _ h => h
theorem Rep.wipe {vs : List Nat} (R : Rep M pn G n σ δ H) : Rep M pn G n (L2.wipe σ vs) (wipeD δ vs) H := by
  refine ⟨R.ex, R.pen, R.tab, R.nt, R.pe, R.mu, ?_⟩
  have E := R.env
  clear R
  induction vs with
  | nil => exact E
  | cons v vs ih =>
    refine ⟨by unfold L2.wipe wipeD; simp [ih.len], fun i d e => ?_⟩
    unfold wipeD at e
    unfold L2.wipe
    by_cases hv : v = i
    · subst hv
      have := getO e
      cases this
    · rw [List.getElem?_set_ne hv] at e ⊢
      exact ih.at_ i d e
theorem Rep.env_of {σ' : L2.St} {δ' : DEnv} (R : Rep M pn G n σ δ H) (E : EnvIs M G σ' δ') : Rep M pn G n σ' δ' H := ⟨R.ex, R.pen, R.tab, R.nt, R.pe, R.mu, E⟩
theorem wipe_wipe {σ : L2.St} {ws : List Nat} : ∀ {vs : List Nat}, (∀ v ∈ vs, v ∈ ws) → L2.wipe (L2.wipe σ vs) ws = L2.wipe σ ws
  | [], _ => rfl
  | v :: vs, h => by
    rw [show L2.wipe σ (v :: vs) = (L2.wipe σ vs).set v none from rfl, wipe_set (h v List.mem_cons_self), wipe_wipe fun u hu => h u (List.mem_cons_of_mem _ hu)]
def dYes : DTT := fun _ n q _ => q true n
theorem PTsw {X : Cx} {e : List Expr} {t t' : TT} (h : PTs X e t) (w : ∀ σ H Q, t' σ H Q → t σ H Q) : PTs X e t' := ⟨fun pins s σ H Q I q => h.run pins s σ H Q I (w _ _ _ q)⟩
theorem dts_nil : PTs X [] (liftT M W dYes) := PTsw pts_nil fun σ H Q ⟨pn, G, n, δ, q, e, R, hf, hQ, hX⟩ => hQ G true n H Adv.refl R hf
theorem dts_one {c : Expr} {f : DTT} (h : PT X c (liftT M W f)) : PTs X [c] (liftT M W f) := pts_one h
/-- m' holds all that m holds -/
def Mle (m m' : Addr → Option MO) : Prop := ∀ a o, m a = some o → m' a = some o
/-- [te for g in ds if tt]; what is made so far stands among the objects that may change -/
def dLcL (g : DTG) (tt : DTT) (te : DTE) (vs : List Nat) : List D → List D → DEnv → NS → (List D → NS → Prop) → Prop
  | [], acc, _, n, q => q acc n
  | d :: ds, acc, δ, n, q => acc.length < 100000 ∧ ∀ m, Mle n.mu m → g d (wipeD δ vs) ⟨n.at_, m⟩ fun δ2 n0 => tt δ2 n0 (fun b n1 => match b with
    | true => te δ2 n1 (fun y n2 => n2.mu = m ∧ dLcL g tt te vs ds (acc ++ [y]) δ ⟨n2.at_, n.mu⟩ q) noX
    | false => n1.mu = m ∧ dLcL g tt te vs ds acc δ ⟨n1.at_, n.mu⟩ q) noX
def dLc (it : DTI) (g : DTG) (tt : DTT) (te : DTE) (vs : List Nat) : DTE := fun δ n q e => it δ n (fun ds n1 => dLcL g tt te vs ds [] δ n1 fun ys n2 => q (.lst ys) n2) e
theorem liftE_lc {it : DTI} {g : DTG} {tt : DTT} {te : DTE} {vs : List Nat} (σ : L2.St) (H : Hp) (Q : VK) (h : liftE M W (dLc it g tt te vs) σ H Q) : tLc (liftI M W it) (liftG M vs g) (liftT M W0 tt) (liftE M W0 te) vs σ H Q := by
  obtain ⟨pn, G, n, δ, q, e, R, hf, hQ, hX⟩ := h
  refine ⟨pn, G, n, δ, _, e, R, hf, fun G1 ds n1 H1 J A1 R1 Y h1 => ?_, hX⟩
  intro Dd hD
  have md := R1.munone hD
  obtain ⟨RD, AD⟩ := R1.mak (o := .lst []) (u := .lst []) hD (by simp only [MIs, IsL])
  refine ⟨fun i m H' => m = ds.length - i ∧ i ≤ ds.length ∧ ∃ (G' : Hp) (n' : NS) (acc : List D), n'.mu Dd = none ∧ Rep M pn G' ⟨n'.at_, mup n'.mu Dd (some (.lst acc))⟩ σ δ H' ∧ Adv pn G1 H1 G' H' ∧ dLcL g tt te vs (ds.drop i) acc δ n' fun ys n2 => q (.lst ys) n2,
    ⟨ds.length, rfl, Nat.zero_le _, G1, n1, [], md, RD, AD, h1⟩, ?_⟩
  rintro i m H2 ⟨rfl, hi, G2, n2, acc, md2, R2, A2, h2⟩
  by_cases hlt : i < ds.length
  · obtain ⟨d, hd⟩ : ∃ d, ds[i]? = some d := ⟨ds[i], by simp [hlt]⟩
    have e1 : ds.drop i = d :: ds.drop (i + 1) := by
      rw [List.drop_eq_getElem_cons hlt]
      congr 1
      rw [List.getElem?_eq_getElem hlt] at hd
      exact Option.some.inj hd
    rw [e1] at h2
    obtain ⟨hlen, h2⟩ := h2
    obtain ⟨g1, g2⟩ := Y.go i G2 H2 _ σ δ A2.ge R2 d hd
    refine .inr ⟨g1, fun H' => ∃ (G' : Hp) (n' : NS) (acc : List D), n'.mu Dd = none ∧ Rep M pn G' ⟨n'.at_, mup n'.mu Dd (some (.lst acc))⟩ σ δ H' ∧ Adv pn G1 H1 G' H' ∧ dLcL g tt te vs (ds.drop (i + 1)) acc δ n' fun ys n2 => q (.lst ys) n2,
      fun H' h' => ⟨ds.length - (i + 1), by omega, rfl, hlt, h'⟩, fun x H3 hy => ?_⟩
    obtain ⟨G3, A3, R3, i3⟩ := g2 x H3 hy
    have h2 := h2 (mup n2.mu Dd (some (.lst acc))) (fun a o e => by rw [mup_ne (fun z => by rw [z, md2] at e; cases e)]; exact e)
    refine ⟨pn, G3, _, wipeD δ vs, d, _, R3.wipe, i3, h2, fun G4 σ4 δ4 n4 H4 A4 R4 w4 h4 => ?_⟩
    refine ⟨w4.trans (wipe_wipe fun _ h => h), pn, G4, n4, δ4, _, noX, R4, h4, fun G5 b n5 H5 A5 R5 h5 => ?_, XEnd.no noX_no⟩
    have A25 := R2.tr A3 (R3.tr A4 (R4.tr A5 Adv.refl))
    cases b with
    | true =>
      refine iteT ⟨pn, G5, n5, δ4, _, noX, R5, h5, fun G6 v y n6 H6 A6 R6 i6 h6 => ?_, XEnd.no noX_no⟩
      have A26 := R2.tr A25 A6
      obtain ⟨em, h6⟩ := h6
      have R6' : Rep M pn G6 n6 σ δ H6 := R6.env_of (R2.env.up A26)
      have m6 : n6.mu Dd = some (.lst acc) := by rw [em, mup_same]
      obtain ⟨u, hu, iu, _, _⟩ := R6'.mu Dd _ m6
      cases u <;> simp only [MIs] at iu
      rename_i us
      refine ⟨us, hu, by rw [iu.length]; exact Nat.lt_of_lt_of_le hlen (le_line (Nat.le_refl _)), G6, ⟨n6.at_, n2.mu⟩, acc ++ [y], md2, ?_, (R1.tr A2 A26).trans ⟨Ext.refl _⟩, h6⟩
      have := R6'.chg (o := .lst (us ++ [v])) (u := .lst (acc ++ [y])) m6 (by simp only [MIs]; exact IsL.append iu (by simp only [IsL]; exact ⟨i6, trivial⟩))
      rw [em, mup_mup] at this
      exact this
    | false =>
      obtain ⟨em, h5⟩ := h5
      have R5' : Rep M pn G5 n5 σ δ H5 := R5.env_of (R2.env.up A25)
      refine iteF ⟨G5, ⟨n5.at_, n2.mu⟩, acc, md2, ?_, R1.tr A2 A25, h5⟩
      rw [← em]
      exact R5'
  · have e : i = ds.length := by omega
    subst e
    rw [List.drop_length] at h2
    refine .inl ⟨Y.stop G2 H2 _ σ δ A2.ge R2, ?_⟩
    have A02 := R.tr A1 A2
    obtain ⟨G3, R3, A3, i3⟩ := frz_is R2 (a := Dd) (o := .lst acc) mup_same rfl
    have R3' : Rep M pn G3 n2 σ δ H2 := by
      have := R3
      simp only [mup_mup, mup_back md2] at this
      exact this
    exact hQ G3 (.ref Dd) (.lst acc) n2 H2 (A02.trans A3) R3' i3 h2
theorem dp_lc {ex : Expr} {it : DTI} {g : DTG} {tt : DTT} {te : DTE} {vs : List Nat} (h : PE X ex (tLc (liftI M W it) (liftG M vs g) (liftT M W0 tt) (liftE M W0 te) vs)) : PE X ex (liftE M W (dLc it g tt te vs)) := PEw h liftE_lc
/-- y = [..] -/
theorem ds_setLc {st : Stmt} {it : DTI} {g : DTG} {tt : DTT} {te : DTE} {vs : List Nat} {i : Nat} (h : PS X st (tAsg (tLc (liftI M W it) (liftG M vs g) (liftT M W0 tt) (liftE M W0 te) vs) (gName i))) : PS X st (liftS M W (dAsg (dLc it g tt te vs) (dgName i))) :=
  PSw h fun D₀ σ H hl => liftE_lc σ H _ (liftS_set D₀ σ H hl)
end
/-! ### defs -/
/-- a def's promise over trees: arguments, draws so far, what is wanted of a value, of an exception -/
abbrev DY := Addr → List Str → List D → NS → Prop
abbrev DSp := List D → NS → (D → NS → Prop) → DY → Prop
def lift (M : LK) (k : Nat) (s : DSp) : Sp := fun vs H Q E => ∃ pn G n ds q e, Rep M pn G n [] [] H ∧ IsL M G vs ds ∧ ds.length = k ∧ s ds n q e ∧
  (∀ G' v d n' H', Adv pn G H G' H' → Rep M pn G' n' [] [] H' → Is M G' v d → q d n' → Q v H') ∧ (∀ G' C a ns xs n' H', Adv pn G H G' H' → Rep M pn G' n' [] [] H' → XIs M G' a ns xs → e C ns xs n' → E (.ref C) a H')
def startD (N : List Str) (ds : List D) : DEnv := ds.map some ++ List.replicate (N.length - ds.length) none
section
variable {X : Cx} {M : LK} {W : WX} {pn : Addr} {G G1 H H1 : Hp} {n : NS} {σ : L2.St} {δ : DEnv}
theorem Rep.bare (R : Rep M pn G n σ δ H) : Rep M pn G n [] [] H := ⟨R.ex, R.pen, R.tab, R.nt, R.pe, R.mu, ⟨rfl, fun i d e => by simp at e⟩⟩
theorem Rep.back {G' H' : Hp} {n' : NS} (R : Rep M pn G n σ δ H) (R' : Rep M pn G' n' [] [] H') (A : Adv pn G H G' H') : Rep M pn G' n' σ δ H' := ⟨R'.ex, R'.pen, R'.tab, R'.nt, R'.pe, R'.mu, R.env.up A⟩
theorem Rep.start {N : List Str} {vs : List V} {ds : List D} (R : Rep M pn G n [] [] H) (h : IsL M G vs ds) : Rep M pn G n (L2.start N vs) (startD N ds) H := by
  refine ⟨R.ex, R.pen, R.tab, R.nt, R.pe, R.mu, ⟨?_, fun i d e => ?_⟩⟩
  · unfold L2.start startD; simp [h.length]
  · unfold startD at e
    unfold L2.start
    by_cases hi : i < ds.length
    · rw [List.getElem?_append_left (by simpa using hi), List.getElem?_map] at e
      cases ed : ds[i]? with
      | none => rw [ed] at e; cases e
      | some d' =>
        rw [ed] at e
        cases e
        obtain ⟨v, h1, h2⟩ := IsL.get h ed
        refine ⟨v, ?_, h2⟩
        rw [List.getElem?_append_left (by simpa [h.length] using hi), List.getElem?_map, h1]
        rfl
    · rw [List.getElem?_append_right (by simpa using hi), List.getElem?_replicate] at e
      split at e <;> cases e
theorem lift_len {k : Nat} {s : DSp} {vs : List V} {H : Hp} {Q : VK} {E : XK} (h : lift M k s vs H Q E) : vs.length = k := by
  obtain ⟨pn, G, n, ds, q, e, R, hi, hk, _⟩ := h
  rw [hi.length, hk]
/-- THE RULE for a def -/
theorem dfn {P : Program} {w : World} {mg : Str → Option Value} {base : Heap} {x qual : Str} {st : Stmt} {f : Addr} {fd : FuncData} {N ps : List Str} {k : Nat} {s : DSp} (F : Fun M.L.K x qual st f fd) (S : FnScope N ps (defScope st)) (t : DTS)
    (hb : ∀ (cdv : Value) (A : Around) (outer : List Env) (s0 : Shared) (H : Hp) (E : XK), Room k (A.deeper (envOfC qual (defScope st) s0.heap.objs.size f cdv)) →
      PSs (cxOf (L2.CX P w) P w M.L.K mg base N qual (defScope st) f cdv A outer s0 H E) (defBody st) (liftS M (fun cls d _ H' => E cls d H') t))
    (hs : ∀ ds n q e, ds.length = ps.length → s ds n q e → t { nx := fun _ n' => q .non n', rt := q, ex := fun _ => e } (startD N ds) n) :
    FnOk P w M.L.K mg base (L2.CX P w) (k + 1) f fd ps (lift M ps.length s) := by
  refine F.okX S (fun vs H Q E h => lift_len h) (fun cdv A outer s0 H vs Q E hr h => ⟨_, hb cdv A outer s0 H E hr, ?_⟩)
  obtain ⟨pn, G, n, ds, q, e, R, hi, hk, hsp, hQ, hE⟩ := h
  refine ⟨pn, G, n, _, _, R.start hi, hs ds n q e hk hsp, ⟨fun G' σ' δ' n' H' A' R' h' => hQ G' .non .non n' H' A' R'.bare (by simp only [Is]) h', fun G' σ' δ' v d n' H' A' R' i' h' => hQ G' v d n' H' A' R'.bare i' h', fun G' σ' δ' n' H' A' R' h' => h'.elim, fun G' σ' δ' n' H' A' R' h' => h'.elim,
    fun G' σ' δ' C a ns xs n' H' A' R' x' h' => hE G' C a ns xs n' H' A' R'.bare x' h'⟩⟩
/-- a call of a def -/
def dCall (k : Nat) (s : DSp) (dds : List D) (f : DTA) : DTE := fun δ n q e => f δ n (fun xs n1 => (xs ++ dds).length = k ∧ s (xs ++ dds) n1 q (e δ)) e
theorem dp_call {ex : Expr} {k : Nat} {s : DSp} {dvs : List V} {dds : List D} {f : DTA} (h : PE X ex (tCallSD (lift M k s) dvs (fun σ cls d H' => W cls d σ H') (liftA M W f))) (hd : ∀ G, IsL M G dvs dds) : PE X ex (liftE M W (dCall k s dds f)) :=
  PEw h fun σ H Q ⟨pn, G, n, δ, q, e, R, hf, hQ, hX⟩ => by
    refine ⟨pn, G, n, δ, _, e, R, hf, fun G1 vs ds n1 H1 A1 R1 i1 h1 => ?_, hX⟩
    refine ⟨pn, G1, n1, ds ++ dds, q, e δ, R1.bare, IsL.append i1 (hd G1), h1.1, h1.2, fun G2 v d n2 H2 A2 R2 i2 h2 => hQ G2 v d n2 H2 (R.tr A1 A2) (R1.back R2 A2) i2 h2, fun G2 C a ns xs n2 H2 A2 R2 x2 h2 => hX G2 C a ns xs n2 H2 (R.tr A1 A2) (R1.back R2 A2) x2 h2⟩
end
end DL

set_option Elab.async false
set_option linter.all false
set_option maxRecDepth 100000
set_option maxHeartbeats 4000000
set_option autoImplicit false
/-! list(text): a new list of its signs. -/
namespace LS
open PySem PySem.W PySem.Calls PyProof.Rows PyProof.V PySem.Spec
section
variable {prog : Program} {w : World} {A : Around} {E : Value → Shared → Prop} {s : Shared} {x : Str} {t : Tok}
theorem hint_str {Q : Bool → Shared → Prop} (h : Q false s) : wpAny (model prog w) A (Builtin.List.listLengthHint (.str x t)) Q E s := by
  have hT : s.TypeIs (.str x t) "str" := typeIs_str s x t
  unfold Builtin.List.listLengthHint
  refine wpAny_bind (wpAny_specialOf hT PySem.F.slot_str_len.lookup ?_)
  generalize hid : ("str.__len__" : String) = id0
  wp_delta
  rw [show splitId id0 = some ("str", "__len__") from by subst hid; decide +kernel]
  subst hid
  refine wpAny_bind (wpAny_isInstance (T := "str") (b := true) hT (by rw [isSubtype_type]; kernel_rfl) ?_)
  refine wpAny_ite_split (fun hab => absurd hab (by decide)) (fun _ => ?_)
  refine wpAny_ite_split (fun _ => ?_) (fun hab => absurd (by decide +kernel) hab)
  refine wpAny_bind (wpAny_typeOf hT ?_)
  exact wpAny_pure h
theorem extend_str {R : Result → Shared → Prop} (hh : A.handled = none) (S : Addr) (res : Value) (c₀ : Nat) (hS : s.heap.get? S = some { cls := .type "list", data := .seq #[] c₀ })
    (hR : ∀ h' tk acc' c', (∀ b o, b ≠ S → s.heap.get? b = some o → h'.get? b = some o) → h'.get? S = some { cls := .type "list", dict := none, data := .seq acc' c', slots := #[] } → ItemsOf (SignAt x) acc' x.cps.size → R (.ok (.ret res)) { s with heap := h', toks := tk }) (hn : x.cps.size ≤ sizeLine) :
    wpAny (model prog w) A.in1 (Builtin.List.listExtendWith (.ref S) (.str x t) res)
      (fun fin s' => match fin with | .done f => R (.ok f) s' | .again c' => c'.quiet = true ∧ codeAny (model prog w) A c' R s') (fun e s' => R (.error e) s') s := by
  have hSI : S ≠ s.heap.objs.size := Nat.ne_of_lt (Heap.lt_size hS)
  have hSf : S ∉ [s.heap.objs.size] := by simp only [List.mem_cons, List.not_mem_nil, or_false]; exact hSI
  unfold Builtin.List.listExtendWith
  refine wpAny_bind (wpAny_typeOf (T := "str") (typeIs_str s x t) ?_)
  have h1 : Builtin.List.listSameRef (.ref S) (.str x t) = false := rfl
  have h2 : (Value.type "str" == Value.type "list") = false := by decide
  have h3 : (Value.type "str" == Value.type "tuple") = false := by decide
  simp only [h1, h2, h3, Bool.or_false, Bool.false_eq_true, if_false]
  refine wpAny_bind (wpAny_pyIter_str fun oI St W st => ?_)
  have key : ∀ (h : Heap) (c₁ tk : Nat), St 0 h → (∀ b o, b ≠ S → s.heap.get? b = some o → h.get? b = some o) →
      h.get? S = some { cls := .type "list", data := .seq #[] c₁ } → codeAny (model prog w) A (.builtin "list.extend.loop" ⟨[.ref S, .ref s.heap.objs.size, res], []⟩) R { s with heap := h, toks := tk } := by
    intro h c₁ tk hst hk hS₁
    refine codeAny_extend_loopS (W A.in1 hh).toS hn S hSf res x.cps.size 0 _ #[] c₁ rfl (Nat.zero_le _) hst hS₁ (ItemsOf.nil _) fun s' acc' c' hm hS' hacc => ?_
    rw [Moved.eq_with hm]
    refine hR s'.heap s'.toks acc' c' (fun b o hb e => hm.heap b o (fun hmem => ?_) (hk b o hb e)) hS' hacc
    rcases List.mem_cons.mp hmem with e' | hmem
    · exact hb e'
    · exact absurd (Heap.lt_size e) (by rw [List.mem_singleton.mp hmem]; exact Nat.lt_irrefl _)
  have hS₁ := Heap.get?_push_of_some oI hS
  refine wpAny_bind (wpAny_holding (hint_str ?_))
  refine wpAny_ite_split (fun hab => absurd hab (by decide)) (fun _ => wpAny_pure ⟨plainId_quiet PySem.F.plain_extend_loop _, key _ c₀ _ st (fun b o _ e => Heap.get?_push_of_some _ e) hS₁⟩)
theorem init_str {R : Result → Shared → Prop} (hh : A.handled = none) (S : Addr) (hS : s.heap.get? S = some { cls := .type "list", data := .seq #[] })
    (hR : ∀ h' tk acc' c', (∀ b o, b ≠ S → s.heap.get? b = some o → h'.get? b = some o) → h'.get? S = some { cls := .type "list", dict := none, data := .seq acc' c', slots := #[] } → ItemsOf (SignAt x) acc' x.cps.size → R (.ok (.ret .none)) { s with heap := h', toks := tk }) (hn : x.cps.size ≤ sizeLine) :
    wpAny (model prog w) A.in1 (Builtin.«list.__init__» ⟨[.ref S, .str x t], []⟩)
      (fun fin s' => match fin with | .done f => R (.ok f) s' | .again c' => c'.quiet = true ∧ codeAny (model prog w) A c' R s') (fun e s' => R (.error e) s') s := by
  show wpAny _ _ (do let old ← Builtin.List.listItems (.ref S); Builtin.List.listUpdate (.ref S) (fun _ => #[]); letGo old.toList.reverse; Builtin.List.listExtendWith (.ref S) (.str x t) .none) _ _ s
  refine wpAny_bind ?_
  unfold Builtin.List.listItems
  refine wpAny_bind (wpAny_seqItems hS rfl (wpAny_pure ?_))
  show wpAny _ _ (updateSeq S (fun _ => #[]) >>= fun _ => letGo (#[] : Array Value).toList.reverse >>= fun _ => Builtin.List.listExtendWith (.ref S) (.str x t) .none) _ _ s
  refine wpAny_bind (wpAny_updateSeq hS rfl ?_)
  have hS₂ := Heap.get?_update_self (Obj.mapSeq (fun _ => (#[] : Array Value))) hS rfl
  have oth : ∀ b o, b ≠ S → s.heap.get? b = some o → (s.heap.update S (Obj.mapSeq (fun _ => (#[] : Array Value)))).get? b = some o :=
    fun b o hb e => (Heap.get?_update_other _ _ (Ne.symm hb)).trans e
  refine wpAny_bind (wpAny_letGo ?_)
  refine extend_str hh S .none _ hS₂ (fun h' tk acc' c' hk hS' hacc => ?_) hn
  exact hR h' tk acc' c' (fun b o hb e => hk b o hb (oth b o hb e)) hS' hacc
theorem call_str {Q : Value → Shared → Prop} (hh : A.handled = none) (hn : x.cps.size ≤ sizeLine)
    (hQ : ∀ h' tk acc' c', (∀ b o, s.heap.get? b = some o → h'.get? b = some o) → h'.get? s.heap.objs.size = some { cls := .type "list", dict := none, data := .seq acc' c', slots := #[] } → ItemsOf (SignAt x) acc' x.cps.size → Q (.ref s.heap.objs.size) { s with heap := h', toks := tk }) :
    wpAny (model prog w) A (call (.type "list") [.str x t]) Q E s := by
  refine callType_codes (Q₁ := fun obj s₁ => obj = .ref s.heap.objs.size ∧ s₁ = { s with heap := s.heap.push { cls := .type "list", data := .seq #[] } }) PySem.F.called_list (PySem.F.typeCall_list_1 _) PySem.F.entry_list_init
    (code_list_new _ ⟨rfl, rfl⟩) fun obj s₁ h₁ => ?_
  obtain ⟨rfl, rfl⟩ := h₁
  have hS : (s.heap.push { cls := .type "list", data := .seq #[] }).get? s.heap.objs.size = some { cls := .type "list", data := .seq #[] } := Heap.get?_push_size _ rfl
  refine ⟨⟨_, hS, rfl⟩, PySem.F.args_list_init_2 _ _, init_str (A := A.in1) hh _ hS (fun h' tk acc' c' hk hS' hacc => ?_) hn⟩
  exact ⟨rfl, hQ h' tk acc' c' (fun b o e => hk b o (Nat.ne_of_lt (Heap.lt_size e)) (Heap.get?_push_of_some _ e)) hS' hacc⟩
end
end LS
namespace L2
open PySem PySem.Spec PyProof.Rows
theorem vals_signs {x : Str} {acc : Array Value} (h : ItemsOf (SignAt x) acc x.cps.size) : Vals (x.cps.toList.map fun c => V.str ⟨#[c]⟩) acc.toList := by
  have key : ∀ (l : List Nat) (vs : List Value), vs.length = l.length → (∀ (j : Nat) (v : Value), vs[j]? = some v → ∃ (c : Nat) (u : Tok), l[j]? = some c ∧ v = Value.str ⟨#[c]⟩ u) → Vals (l.map fun c => V.str ⟨#[c]⟩) vs := by
    intro l
    induction l with
    | nil =>
      intro vs hl _
      cases vs with
      | nil => exact .nil
      | cons _ _ => cases hl
    | cons c l ih =>
      intro vs hl hv
      cases vs with
      | nil => cases hl
      | cons v vs =>
        obtain ⟨c', u, e1, e2⟩ := hv 0 v rfl
        cases e1
        subst e2
        exact .cons ⟨u, rfl⟩ (ih vs (by simpa using hl) fun j v' e => by simpa using hv (j + 1) v' (by simpa using e))
  refine key _ _ (by rw [Array.length_toList, h.1, Array.length_toList]) fun j v e => ?_
  obtain ⟨c, u, e1, e2⟩ := h.2 j v (by simpa using e)
  exact ⟨c, u, by simpa using e1, e2⟩
theorem call_list_str {X : Cx} (hc : X.calm = true) : CallR X (.type "list") (fun xs H Q => ∃ z : Str, xs = [.str z] ∧ z.length ≤ sizeLine ∧ ∀ l, H l = none → Q (.ref l) (upd H l (.lst (z.cps.toList.map fun c => V.str ⟨#[c]⟩)))) := by
  intro pins s σ H xs us Q I r h
  obtain ⟨z, rfl, hl, q⟩ := h
  obtain ⟨u, rfl, rx⟩ := vals1 r
  obtain ⟨t, rfl⟩ := rx
  refine LS.call_str (I.ok.hd hc) hl fun h' tk acc' c' kp e hacc => ?_
  have r' := vals_signs hacc
  exact ⟨.ref s.heap.objs.size, _, I.laid (t' := tk) kp (Nat.le_refl _) (show ObjOk X.prog X.w _ h' _ (.lst _) from ⟨by rw [List.length_map, Array.length_toList]; exact hl, acc'.toList, c', r', by rw [Array.toArray_toList]; exact e⟩), rfl, q _ (I.hok.fresh (Nat.le_refl _))⟩
end L2

set_option Elab.async false
set_option linter.all false
set_option maxRecDepth 100000
set_option maxHeartbeats 4000000
set_option autoImplicit false
/-! The data layer: operations by values. -/
namespace DL
open PySem PySem.Spec PyProof.Rows L2
abbrev GR2 := D → D → NS → (D → NS → Prop) → Prop
theorem S_len (l : List Nat) : (S l).length = l.length := by simp [S, Str.length]
theorem S_app (a b : List Nat) : S a ++ S b = S (a ++ b) := by
  show Str.mk _ = _
  simp
theorem S_inj {a b : List Nat} : S a = S b ↔ a = b := ⟨fun h => by have := congrArg (fun x : Str => x.cps.toList) h; simpa using this, fun h => by rw [h]⟩
theorem S_cps (a : List Nat) : (S a).cps.toList = a := by simp
section
variable {X : Cx} {M : LK} {W : WX}
/-! ### + -/
def gAdd : GR2 := fun x y n q => match x, y with
  | .int i, .int j => q (.int (i + j)) n
  | .str a, .str b => a.length + b.length ≤ 100000 ∧ q (.str (a ++ b)) n
  | .lst a, .lst b => a.length + b.length ≤ 100000 ∧ q (.lst (a ++ b)) n
  | .tup a, .tup b => a.length + b.length ≤ 100000 ∧ q (.tup (a ++ b)) n
  | _, _ => False
def rAddX (K : Frag) : R2 := fun x y H Q => (((∃ i j, x = V.int i ∧ y = V.int j ∧ Q (.int (i + j)) H) ∨ (∃ i j, x = V.str i ∧ y = V.str j ∧ i.length + j.length ≤ sizeLine ∧ Q (.str (i ++ j)) H)) ∨ rCat x y H Q) ∨ rCatA K x y H Q
theorem op_addX (hK : X.K = M.L.K) : OpR X (binaryOp .Add) (rAddX M.L.K) := hK ▸ OpR.or (OpR.or (OpR.or op_add op_add_str) op_cat) op_catA
theorem IsL.nil_iff {G : Hp} {vs : List V} {ds : List D} (h : IsL M G vs ds) : vs = [] ↔ ds = [] := by
  have e1 := h.length
  constructor
  · intro e
    rw [e] at e1
    exact List.eq_nil_of_length_eq_zero e1.symm
  · intro e
    rw [e] at e1
    exact List.eq_nil_of_length_eq_zero e1
theorem dr_add : DR2 M (rAddX M.L.K) gAdd := by
  intro pn G n σ δ H v u x y q Q R ix iy h k
  unfold gAdd at h
  split at h
  · rename_i i j
    simp only [Is] at ix iy
    exact .inl (.inl (.inl ⟨i, j, ix, iy, k G _ (.int (i + j)) n H Adv.refl R (by simp only [Is]) h⟩))
  · rename_i a b
    simp only [Is] at ix iy
    refine .inl (.inl (.inr ⟨S a, S b, ix, iy, by rw [S_len, S_len]; exact le_line h.1, ?_⟩))
    exact k G _ (.str (a ++ b)) n H Adv.refl R (by simp only [Is]; rw [S_app]) h.2
  · rename_i a b
    simp only [Is] at ix iy
    obtain ⟨p, vs, rfl, h1, h2⟩ := ix
    obtain ⟨p', us, rfl, h3, h4⟩ := iy
    refine .inl (.inr ⟨p, p', vs, us, rfl, rfl, R.ex _ _ h1, R.ex _ _ h3, by rw [h2.length, h4.length]; exact le_line h.1, fun l hl => ?_⟩)
    obtain ⟨R2, A2⟩ := R.lay (o := .lst (vs ++ us)) hl notTbl_lst
    exact k _ _ (.lst (a ++ b)) n _ A2 R2 (by simp only [Is]; exact ⟨l, _, rfl, upd_same, IsL.append (IsL.up A2.ge _ _ h2) (IsL.up A2.ge _ _ h4)⟩) h.2
  · rename_i a b
    have ix' := ix
    have iy' := iy
    simp only [Is] at ix iy
    obtain ⟨p, vs, rfl, h1, h2⟩ := ix
    obtain ⟨p', us, rfl, h3, h4⟩ := iy
    refine .inr ⟨p, p', vs, us, rfl, rfl, R.ex.seqT h1, R.ex.seqT h3, by rw [h2.length, h4.length]; exact le_line h.1, fun e => ?_, fun _ e => ?_, fun _ _ l hl => ?_⟩
    · have e2 := h2.nil_iff.mp e
      subst e2
      exact k G _ (.tup b) n H Adv.refl R iy' h.2
    · have e2 := h4.nil_iff.mp e
      subst e2
      exact k G _ (.tup a) n H Adv.refl R ix' (by simpa using h.2)
    · obtain ⟨R2, A2⟩ := R.lay (o := .tup (vs ++ us)) hl notTbl_tup
      exact k _ _ (.tup (a ++ b)) n _ A2 R2 (by simp only [Is]; exact ⟨l, _, rfl, SqT.of upd_same, IsL.append (IsL.up A2.ge _ _ h2) (IsL.up A2.ge _ _ h4)⟩) h.2
  · exact h.elim
theorem dp_add {a b : Expr} {pos : Pos} {fa fb : DTE} (hK : X.K = M.L.K) (ha : PE X a (liftE M W fa)) (hb : PE X b (liftE M W fb)) : PE X (.BinOp a .Add b pos) (liftE M W (dOp gAdd fa fb)) := dp_op (op_addX hK) dr_add ha hb
/-! ### ints -/
def gI (C : Int → Int → Prop) (g : Int → Int → D) : GR2 := fun x y n q => match x, y with
  | .int i, .int j => C i j ∧ q (g i j) n
  | _, _ => False
theorem dr_I {C C' : Int → Int → Prop} {g : Int → Int → V} {g' : Int → Int → D} (hc : ∀ i j, C' i j → C i j) (hg : ∀ G i j, Is M G (g i j) (g' i j)) : DR2 M (rI C g) (gI C' g') := by
  intro pn G n σ δ H v u x y q Q R ix iy h k
  unfold gI at h
  split at h
  · rename_i i j
    simp only [Is] at ix iy
    exact ⟨i, j, ix, iy, hc i j h.1, k G _ _ n H Adv.refl R (hg G i j) h.2⟩
  · exact h.elim
def gI0 (g : Int → Int → D) : GR2 := fun x y n q => match x, y with
  | .int i, .int j => q (g i j) n
  | _, _ => False
theorem dr_I0 {g : Int → Int → V} {g' : Int → Int → D} (hg : ∀ G i j, Is M G (g i j) (g' i j)) : DR2 M (rI0 g) (gI0 g') := by
  intro pn G n σ δ H v u x y q Q R ix iy h k
  unfold gI0 at h
  split at h
  · rename_i i j
    simp only [Is] at ix iy
    exact ⟨i, j, ix, iy, k G _ _ n H Adv.refl R (hg G i j) h⟩
  · exact h.elim
abbrev gSub : GR2 := gI0 fun i j => .int (i - j)
theorem dp_sub {a b : Expr} {pos : Pos} {fa fb : DTE} (ha : PE X a (liftE M W fa)) (hb : PE X b (liftE M W fb)) : PE X (.BinOp a .Sub b pos) (liftE M W (dOp gSub fa fb)) := dp_op op_sub (dr_I0 fun _ _ _ => by simp only [Is]) ha hb
/-- what * asks: one factor within 64 bits, or both together below a million -/
def MulOk (i j : Int) : Prop := ((-(2 ^ 64) < i ∧ i < 2 ^ 64) ∨ (-(2 ^ 64) < j ∧ j < 2 ^ 64)) ∨ i.natAbs.log2 + j.natAbs.log2 < 1000000
theorem op_mulX : OpR X (binaryOp .Mult) (rI MulOk fun i j => .int (i * j)) := by
  intro pins s σ H x y v u Q I rx ry h
  obtain ⟨i, j, e1, e2, hc, q⟩ := h
  rcases hc with hc | hc
  · exact op_mul pins s σ H x y v u Q I rx ry ⟨i, j, e1, e2, hc, q⟩
  · exact op_mulW pins s σ H x y v u Q I rx ry ⟨i, j, e1, e2, hc, q⟩
abbrev gMul : GR2 := gI MulOk fun i j => .int (i * j)
theorem dp_mul {a b : Expr} {pos : Pos} {fa fb : DTE} (ha : PE X a (liftE M W fa)) (hb : PE X b (liftE M W fb)) : PE X (.BinOp a .Mult b pos) (liftE M W (dOp gMul fa fb)) := dp_op op_mulX (dr_I (fun _ _ h => h) fun _ _ _ => by simp only [Is]) ha hb
def DivOk (i j : Int) : Prop := 0 < j ∧ (j < 1073741824 ∨ j.natAbs.log2 < 9000)
theorem op_divX : OpR X (binaryOp .FloorDiv) (rI DivOk fun i j => .int (i / j)) := by
  intro pins s σ H x y v u Q I rx ry h
  obtain ⟨i, j, e1, e2, hc, q⟩ := h
  rcases hc.2 with h2 | h2
  · exact op_fdiv pins s σ H x y v u Q I rx ry ⟨i, j, e1, e2, ⟨hc.1, h2⟩, q⟩
  · exact op_fdivW pins s σ H x y v u Q I rx ry ⟨i, j, e1, e2, ⟨hc.1, h2⟩, q⟩
abbrev gDiv : GR2 := gI DivOk fun i j => .int (i / j)
theorem dp_div {a b : Expr} {pos : Pos} {fa fb : DTE} (ha : PE X a (liftE M W fa)) (hb : PE X b (liftE M W fb)) : PE X (.BinOp a .FloorDiv b pos) (liftE M W (dOp gDiv fa fb)) := dp_op op_divX (dr_I (fun _ _ h => h) fun _ _ _ => by simp only [Is]) ha hb
abbrev gMod : GR2 := gI (fun _ j => 0 < j) fun i j => .int (i % j)
theorem dp_mod {a b : Expr} {pos : Pos} {fa fb : DTE} (ha : PE X a (liftE M W fa)) (hb : PE X b (liftE M W fb)) : PE X (.BinOp a .Mod b pos) (liftE M W (dOp gMod fa fb)) := dp_op op_mod (dr_I (fun _ _ h => h) fun _ _ _ => by simp only [Is]) ha hb
abbrev gPow : GR2 := gI CPow fun i j => .int (i ^ j.toNat)
theorem dp_pow {a b : Expr} {pos : Pos} {fa fb : DTE} (ha : PE X a (liftE M W fa)) (hb : PE X b (liftE M W fb)) : PE X (.BinOp a .Pow b pos) (liftE M W (dOp gPow fa fb)) := dp_op op_pow (dr_I (fun _ _ h => h) fun _ _ _ => by simp only [Is]) ha hb
def dNeg (f : DTE) : DTE := fun δ n q e => f δ n (fun x n1 => match x with | .int i => q (.int (-i)) n1 | _ => False) e
theorem dp_neg {a : Expr} {pos : Pos} {f : DTE} (ha : PE X a (liftE M W f)) : PE X (.UnaryOp .USub a pos) (liftE M W (dNeg f)) :=
  PEw (pe_un un_neg ha) fun σ H Q ⟨pn, G, n, δ, q, e, R, hf, hQ, hX⟩ => by
    refine ⟨pn, G, n, δ, _, e, R, hf, fun G1 v d n1 H1 A1 R1 i1 h1 => ?_, hX⟩
    cases d with
    | int i =>
      simp only [Is] at i1
      exact ⟨i, i1, hQ G1 _ (.int (-i)) n1 H1 A1 R1 (by simp only [Is]) h1⟩
    | _ => exact h1.elim
/-! ### order -/
def gOrd (gi : Int → Int → Bool) (gs : List Nat → List Nat → Bool) : GR2 := fun x y n q => match x, y with
  | .int i, .int j => q (.bl (gi i j)) n
  | .str a, .str b => q (.bl (gs a b)) n
  | _, _ => False
def rOrd (gi : Int → Int → Bool) (gs : List Nat → List Nat → Bool) : R2 := fun x y H Q => (∃ i j, x = V.int i ∧ y = V.int j ∧ Q (.bl (gi i j)) H) ∨ (∃ i j, x = V.str i ∧ y = V.str j ∧ Q (.bl (gs i.cps.toList j.cps.toList)) H)
theorem dr_ord {gi : Int → Int → Bool} {gs : List Nat → List Nat → Bool} : DR2 M (rOrd gi gs) (gOrd gi gs) := by
  intro pn G n σ δ H v u x y q Q R ix iy h k
  unfold gOrd at h
  split at h
  · rename_i i j
    simp only [Is] at ix iy
    exact .inl ⟨i, j, ix, iy, k G _ (.bl (gi i j)) n H Adv.refl R (by simp only [Is]) h⟩
  · rename_i a b
    simp only [Is] at ix iy
    exact .inr ⟨S a, S b, ix, iy, k G _ (.bl (gs a b)) n H Adv.refl R (by simp only [Is, S_cps]) h⟩
  · exact h.elim
abbrev gLt : GR2 := gOrd (fun i j => decide (i < j)) (fun a b => decide (a < b))
abbrev gLe : GR2 := gOrd (fun i j => decide (i ≤ j)) (fun a b => !decide (b < a))
abbrev gGt : GR2 := gOrd (fun i j => decide (j < i)) (fun a b => decide (b < a))
abbrev gGe : GR2 := gOrd (fun i j => decide (j ≤ i)) (fun a b => !decide (a < b))
theorem op_ltX : OpR X (compareOp .Lt) (rOrd (fun i j => decide (i < j)) (fun a b => decide (a < b))) := OpR.or op_lt op_lt_str
theorem op_leX : OpR X (compareOp .LtE) (rOrd (fun i j => decide (i ≤ j)) (fun a b => !decide (b < a))) := OpR.or op_le op_le_str
theorem op_gtX : OpR X (compareOp .Gt) (rOrd (fun i j => decide (j < i)) (fun a b => decide (b < a))) := OpR.or op_gt op_gt_str
theorem op_geX : OpR X (compareOp .GtE) (rOrd (fun i j => decide (j ≤ i)) (fun a b => !decide (a < b))) := OpR.or op_ge op_ge_str
end
end DL

set_option Elab.async false
set_option linter.all false
set_option maxRecDepth 100000
set_option maxHeartbeats 4000000
set_option autoImplicit false
namespace DL
open PySem PySem.Spec PyProof.Rows L2
section
variable {X : Cx} {M : LK} {W : WX}
/-! ### == -/
mutual
def py : D → Option PyData
  | .non => some .none
  | .bl b => some (.bool b)
  | .int i => some (.int i)
  | .str l => some (.str (S l))
  | .lst xs => (pyL xs).map .list
  | .tup xs => (pyL xs).map .tuple
  | _ => none
def pyL : List D → Option (List PyData)
  | [] => some []
  | d :: ds => match py d, pyL ds with | some a, some b => some (a :: b) | _, _ => none
end
mutual
theorem py_dp {G H : Hp} (hx : Ext G H) : ∀ (d : D) (v : V) (x : PyData), Is M G v d → py d = some x → Dp M.L.K H v x
  | .non, v, x, h, e => by simp only [Is] at h; simp only [py, Option.some.injEq] at e; subst h e; exact .non
  | .bl b, v, x, h, e => by simp only [Is] at h; simp only [py, Option.some.injEq] at e; subst h e; exact .bl b
  | .int i, v, x, h, e => by simp only [Is] at h; simp only [py, Option.some.injEq] at e; subst h e; exact .int i
  | .str l, v, x, h, e => by simp only [Is] at h; simp only [py, Option.some.injEq] at e; subst h e; exact .str _
  | .lst xs, v, x, h, e => by
    simp only [Is] at h
    obtain ⟨p, vs, rfl, h1, h2⟩ := h
    simp only [py, Option.map_eq_some_iff] at e
    obtain ⟨ys, e1, rfl⟩ := e
    exact .lst (SqL.of (hx _ _ h1)) (py_dpL hx xs vs ys h2 e1)
  | .tup xs, v, x, h, e => by
    simp only [Is] at h
    obtain ⟨p, vs, rfl, h1, h2⟩ := h
    simp only [py, Option.map_eq_some_iff] at e
    obtain ⟨ys, e1, rfl⟩ := e
    exact .tup (hx.seqT h1) (py_dpL hx xs vs ys h2 e1)
  | .ty _, _, _, _, e => by simp [py] at e
  | .ref _, _, _, _, e => by simp [py] at e
  | .pen, _, _, _, e => by simp [py] at e
  | .ins _ _ _, _, _, _, e => by simp [py] at e
  | .exc _ _ _ _ _, _, _, _, e => by simp [py] at e
  | .err _ _ _, _, _, _, e => by simp [py] at e
  | .dct, _, _, _, e => by simp [py] at e
  | .scr, _, _, _, e => by simp [py] at e
  | .thk _ _ _ _ _, _, _, _, e => by simp [py] at e
  | .fn _ _, _, _, _, e => by simp [py] at e
theorem py_dpL {G H : Hp} (hx : Ext G H) : ∀ (ds : List D) (vs : List V) (xs : List PyData), IsL M G vs ds → pyL ds = some xs → DpAll M.L.K H vs xs
  | [], [], xs, _, e => by simp only [pyL, Option.some.injEq] at e; subst e; exact .nil
  | d :: ds, v :: vs, xs, h, e => by
    simp only [IsL] at h
    simp only [pyL] at e
    cases e1 : py d with
    | none => rw [e1] at e; cases e
    | some a =>
      cases e2 : pyL ds with
      | none => rw [e1, e2] at e; cases e
      | some b =>
        rw [e1, e2] at e
        cases e
        exact .cons (py_dp hx d v a h.1 e1) (py_dpL hx ds vs b h.2 e2)
  | [], _ :: _, _, h, _ => by simp only [IsL] at h
  | _ :: _, [], _, h, _ => by simp only [IsL] at h
end
/-- == of scalars -/
def scEq : D → D → Option Bool
  | .non, .non => some true | .non, .int _ => some false | .int _, .non => some false | .non, .bl _ => some false | .bl _, .non => some false | .non, .str _ => some false | .str _, .non => some false
  | .int a, .int b => some (decide (a = b)) | .bl a, .bl b => some (decide (a = b)) | .str a, .str b => some (decide (a = b))
  | .int _, .str _ => some false | .str _, .int _ => some false | .bl _, .str _ => some false | .str _, .bl _ => some false
  | _, _ => none
theorem scEq_ok {G : Hp} {v u : V} {x y : D} {b : Bool} (h : scEq x y = some b) (ix : Is M G v x) (iy : Is M G u y) : scal v u = true ∧ decide (v = u) = b := by
  cases x <;> cases y <;> simp only [scEq, Option.some.injEq, reduceCtorEq] at h <;> simp only [Is] at ix iy <;> subst ix iy h <;> refine ⟨rfl, ?_⟩ <;> simp
def eqD (x y : D) (k : Bool → Prop) : Prop := match scEq x y with
  | some b => k b
  | none => ∃ a b, py x = some a ∧ py y = some b ∧ SeqAt.shaped a = true ∧ SeqAt.shaped b = true ∧ k (PyData.eqv a b)
def gEq : GR2 := fun x y n q => eqD x y fun b => q (.bl b) n
def gNe : GR2 := fun x y n q => eqD x y fun b => q (.bl (!b)) n
theorem dr_eq : DR2 M (fun x y H Q => rEq x y H Q ∨ rEqD M.L.K x y H Q) gEq := by
  intro pn G n σ δ H v u x y q Q R ix iy h k
  unfold gEq eqD at h
  cases e : scEq x y with
  | some b =>
    rw [e] at h
    obtain ⟨h1, h2⟩ := scEq_ok e ix iy
    exact .inl ⟨h1, k G _ (.bl b) n H Adv.refl R (by simp only [Is]; rw [h2]) h⟩
  | none =>
    rw [e] at h
    obtain ⟨a, b, e1, e2, s1, s2, h⟩ := h
    exact .inr ⟨a, b, py_dp R.ex x v a ix e1, py_dp R.ex y u b iy e2, s1, s2, k G _ (.bl (PyData.eqv a b)) n H Adv.refl R (by simp only [Is]) h⟩
theorem dr_ne : DR2 M (fun x y H Q => rNe x y H Q ∨ rNeD M.L.K x y H Q) gNe := by
  intro pn G n σ δ H v u x y q Q R ix iy h k
  unfold gNe eqD at h
  cases e : scEq x y with
  | some b =>
    rw [e] at h
    obtain ⟨h1, h2⟩ := scEq_ok e ix iy
    exact .inl ⟨h1, k G _ (.bl (!b)) n H Adv.refl R (by simp only [Is]; rw [h2]) h⟩
  | none =>
    rw [e] at h
    obtain ⟨a, b, e1, e2, s1, s2, h⟩ := h
    exact .inr ⟨a, b, py_dp R.ex x v a ix e1, py_dp R.ex y u b iy e2, s1, s2, k G _ (.bl (!PyData.eqv a b)) n H Adv.refl R (by simp only [Is]) h⟩
theorem op_eqX (hK : X.K = M.L.K) (hu : X.A.units + 64 < cLine) : OpR X (compareOp .Eq) (fun x y H Q => rEq x y H Q ∨ rEqD M.L.K x y H Q) := hK ▸ OpR.or op_eq (op_eqD hu)
theorem op_neX (hK : X.K = M.L.K) (hu : X.A.units + 64 < cLine) : OpR X (compareOp .NotEq) (fun x y H Q => rNe x y H Q ∨ rNeD M.L.K x y H Q) := hK ▸ OpR.or op_ne (op_neD hu)
end
end DL

set_option Elab.async false
set_option linter.all false
set_option maxRecDepth 100000
set_option maxHeartbeats 4000000
set_option autoImplicit false
namespace DL
open PySem PySem.Spec PyProof.Rows L2
section
variable {X : Cx} {M : LK} {W : WX}
/-! ### in, is None -/
def flatD : D → Bool
  | .non => true | .bl _ => true | .int _ => true | .str _ => true | _ => false
/-- a flat value -/
def dV : D → V
  | .bl b => .bl b | .int i => .int i | .str l => .str (S l) | _ => .non
theorem dV_ok {G : Hp} {v : V} {d : D} (h : Is M G v d) (hf : flatD d = true) : v = dV d ∧ flatV v = true := by
  cases d <;> simp only [flatD, reduceCtorEq] at hf <;> simp only [Is] at h <;> subst h <;> exact ⟨rfl, rfl⟩
theorem dV_all {G : Hp} : ∀ {ds : List D} {vs : List V}, IsL M G vs ds → ds.all flatD = true → vs = ds.map dV ∧ vs.all flatV = true
  | [], [], _, _ => ⟨rfl, rfl⟩
  | d :: ds, v :: vs, h, hf => by
    simp only [IsL] at h
    rw [List.all_cons, Bool.and_eq_true] at hf
    obtain ⟨e1, e2⟩ := dV_ok h.1 hf.1
    obtain ⟨e3, e4⟩ := dV_all h.2 hf.2
    exact ⟨by rw [e1, e3]; rfl, by rw [List.all_cons, e2, e4]; rfl⟩
  | [], _ :: _, h, _ => by simp only [IsL] at h
  | _ :: _, [], h, _ => by simp only [IsL] at h
/-- y is x, flat ones -/
def eqF (y x : D) : Bool := eqV (dV y) (dV x)
def inD (x y : D) (k : Bool → Prop) : Prop := match x, y with
  | .str [c], .str l => k (decide (c ∈ l))
  | x, .lst ys => flatD x = true ∧ ys.all flatD = true ∧ k (ys.any fun y => eqF y x)
  | x, .tup ys => flatD x = true ∧ ys.all flatD = true ∧ k (ys.any fun y => eqF y x)
  | _, _ => False
def gIn : GR2 := fun x y n q => inD x y fun b => q (.bl b) n
def gNotIn : GR2 := fun x y n q => inD x y fun b => q (.bl (!b)) n
theorem inV_any {x : D} {ys : List D} : inV (dV x) (ys.map dV) = ys.any fun y => eqF y x := by unfold inV eqF; rw [List.any_map]; rfl
theorem dr_in {neg : Bool} : DR2 M (fun x y H Q => (∃ (c : Nat) (z : Str), x = .str ⟨#[c]⟩ ∧ y = .str z ∧ Q (.bl (if neg then !decide (c ∈ z.cps.toList) else decide (c ∈ z.cps.toList))) H) ∨ rIn M.L.K neg x y H Q) (fun x y n q => inD x y fun b => q (.bl (if neg then !b else b)) n) := by
  intro pn G n σ δ H v u x y q Q R ix iy h k
  unfold inD at h
  split at h
  · rename_i c l
    simp only [Is] at ix iy
    exact .inl ⟨c, S l, ix, iy, k G _ (.bl (if neg then !decide (c ∈ l) else decide (c ∈ l))) n H Adv.refl R (by simp only [Is, S_cps]) h⟩
  · rename_i ys _
    obtain ⟨f1, f2, h⟩ := h
    simp only [Is] at iy
    obtain ⟨p, vs, rfl, h1, h2⟩ := iy
    obtain ⟨e1, e2⟩ := dV_ok ix f1
    obtain ⟨e3, e4⟩ := dV_all h2 f2
    refine .inr ⟨p, vs, rfl, .inl (SqL.of (R.ex _ _ h1)), e2, e4, ?_⟩
    rw [e1, e3, inV_any]
    exact k G _ _ n H Adv.refl R (by simp only [Is]) h
  · rename_i ys _
    obtain ⟨f1, f2, h⟩ := h
    simp only [Is] at iy
    obtain ⟨p, vs, rfl, h1, h2⟩ := iy
    obtain ⟨e1, e2⟩ := dV_ok ix f1
    obtain ⟨e3, e4⟩ := dV_all h2 f2
    refine .inr ⟨p, vs, rfl, .inr (R.ex.seqT h1), e2, e4, ?_⟩
    rw [e1, e3, inV_any]
    exact k G _ _ n H Adv.refl R (by simp only [Is]) h
  · exact h.elim
theorem op_inX (hK : X.K = M.L.K) : OpR X (compareOp .In) (fun x y H Q => (∃ (c : Nat) (z : Str), x = .str ⟨#[c]⟩ ∧ y = .str z ∧ Q (.bl (if false then !decide (c ∈ z.cps.toList) else decide (c ∈ z.cps.toList))) H) ∨ rIn M.L.K false x y H Q) := hK ▸ OpR.or op_in_sign op_in_seq
theorem op_notInX (hK : X.K = M.L.K) : OpR X (compareOp .NotIn) (fun x y H Q => (∃ (c : Nat) (z : Str), x = .str ⟨#[c]⟩ ∧ y = .str z ∧ Q (.bl (if true then !decide (c ∈ z.cps.toList) else decide (c ∈ z.cps.toList))) H) ∨ rIn M.L.K true x y H Q) := hK ▸ OpR.or op_notIn_sign op_notIn_seq
theorem dr_inX : DR2 M (fun x y H Q => (∃ (c : Nat) (z : Str), x = .str ⟨#[c]⟩ ∧ y = .str z ∧ Q (.bl (if false then !decide (c ∈ z.cps.toList) else decide (c ∈ z.cps.toList))) H) ∨ rIn M.L.K false x y H Q) gIn := dr_in
theorem dr_notInX : DR2 M (fun x y H Q => (∃ (c : Nat) (z : Str), x = .str ⟨#[c]⟩ ∧ y = .str z ∧ Q (.bl (if true then !decide (c ∈ z.cps.toList) else decide (c ∈ z.cps.toList))) H) ∨ rIn M.L.K true x y H Q) gNotIn := dr_in
def isNon : D → Bool | .non => true | _ => false
theorem isNon_ok {G : Hp} {v : V} {d : D} (h : Is M G v d) : decide (v = .non) = isNon d := by
  cases d <;> simp only [Is] at h <;> first | (subst h; rfl) | (obtain ⟨rfl, _⟩ := h; rfl) | (obtain ⟨_, rfl, _⟩ := h; rfl) | (obtain ⟨_, _, rfl, _⟩ := h; rfl) | (obtain ⟨_, _, _, rfl, _⟩ := h; rfl) | exact h.elim
def gIsN : GR2 := fun x y n q => y = .non ∧ q (.bl (isNon x)) n
def gNotN : GR2 := fun x y n q => y = .non ∧ q (.bl (!isNon x)) n
theorem dr_isN : DR2 M (fun x y H Q => y = .non ∧ Q (.bl (decide (x = .non))) H) gIsN := by
  intro pn G n σ δ H v u x y q Q R ix iy h k
  obtain ⟨rfl, h⟩ := h
  simp only [Is] at iy
  exact ⟨iy, k G _ (.bl (isNon x)) n H Adv.refl R (by simp only [Is, isNon_ok ix]) h⟩
theorem dr_notN : DR2 M (fun x y H Q => y = .non ∧ Q (.bl (!decide (x = .non))) H) gNotN := by
  intro pn G n σ δ H v u x y q Q R ix iy h k
  obtain ⟨rfl, h⟩ := h
  simp only [Is] at iy
  exact ⟨iy, k G _ (.bl (!isNon x)) n H Adv.refl R (by simp only [Is, isNon_ok ix]) h⟩
end
end DL

set_option Elab.async false
set_option linter.all false
set_option maxRecDepth 100000
set_option maxHeartbeats 4000000
set_option autoImplicit false
namespace DL
open PySem PySem.Spec PyProof.Rows L2
section
variable {X : Cx} {M : LK} {W : WX}
/-! ### subscripts -/
def gIx : GR2 := fun x y n q => match x, y with
  | .lst xs, .int i => ∃ d, atI xs i = some d ∧ q d n
  | .tup xs, .int i => ∃ d, atI xs i = some d ∧ q d n
  | .str l, .int i => l.length ≤ 100000 ∧ ∃ c, atI l i = some c ∧ q (.str [c]) n
  | .ref a, .int i => ∃ xs d, n.mu a = some (.lst xs) ∧ atI xs i = some d ∧ q d n
  | _, _ => False
theorem IsL.atI {G : Hp} {ds : List D} {vs : List V} {i : Int} {d : D} (h : IsL M G vs ds) (e : atI ds i = some d) : ∃ v, L2.atI vs i = some v ∧ Is M G v d := by
  unfold L2.atI at e ⊢
  rw [h.length]
  cases e1 : ixN ds.length i with
  | none => rw [e1] at e; cases e
  | some j =>
    rw [e1] at e
    exact IsL.get h e
theorem dr_ix : DR2 M (rIx M.L.K) gIx := by
  intro pn G n σ δ H v u x y q Q R ix iy h k
  unfold gIx at h
  split at h
  · rename_i xs i
    obtain ⟨d, e, h⟩ := h
    simp only [Is] at ix iy
    obtain ⟨p, vs, rfl, h1, h2⟩ := ix
    obtain ⟨w, e1, i1⟩ := h2.atI e
    exact .inl ⟨p, vs, i, w, rfl, iy, SqL.of (R.ex _ _ h1), e1, k G w d n H Adv.refl R i1 h⟩
  · rename_i xs i
    obtain ⟨d, e, h⟩ := h
    simp only [Is] at ix iy
    obtain ⟨p, vs, rfl, h1, h2⟩ := ix
    obtain ⟨w, e1, i1⟩ := h2.atI e
    exact .inr (.inl ⟨p, vs, i, w, rfl, iy, R.ex.seqT h1, e1, k G w d n H Adv.refl R i1 h⟩)
  · rename_i l i
    obtain ⟨hl, c, e, h⟩ := h
    simp only [Is] at ix iy
    exact .inr (.inr ⟨S l, i, c, ix, iy, by rw [S_len]; exact le_line hl, by rw [S_cps]; exact e, k G _ (.str [c]) n H Adv.refl R (by simp only [Is]) h⟩)
  · rename_i a i
    obtain ⟨xs, d, hm, e, h⟩ := h
    simp only [Is] at ix iy
    subst ix
    obtain ⟨u, h1, h2, _, _⟩ := R.mu a _ hm
    cases u <;> simp only [MIs] at h2
    obtain ⟨w, e1, i1⟩ := h2.atI e
    exact .inl ⟨a, _, i, w, rfl, iy, SqL.of h1, e1, k G w d n H Adv.refl R i1 h⟩
  · exact h.elim
theorem dp_ix {a b : Expr} {pos : Pos} {fa fb : DTE} (hK : X.K = M.L.K) (ha : PE X a (liftE M W fa)) (hb : PE X b (liftE M W fb)) (hs : PlainIx b := by exact fun _ _ => rfl) : PE X (.Subscript a b pos) (liftE M W (dOp gIx fa fb)) :=
  PEw (pe_ix (r := rIx M.L.K) (hK ▸ ix_seq) ha hb hs) (liftE_bin dr_ix)
/-! ### slices -/
abbrev DTO := DEnv → NS → (Option Int → NS → Prop) → DX → Prop
def liftO (M : LK) (W : WX) (f : DTO) : TO := fun σ H Q => ∃ pn G n δ q e, Rep M pn G n σ δ H ∧ f δ n q e ∧ (∀ G' b n' H', Adv pn G H G' H' → Rep M pn G' n' σ δ H' → q b n' → Q b H') ∧ XEnd M W pn G σ δ H e
theorem POw {X : Cx} {e : Option Expr} {t t' : TO} (h : PO X e t) (w : ∀ σ H Q, t' σ H Q → t σ H Q) : PO X e t' := ⟨fun pins s σ H Q I q => h.run pins s σ H Q I (w _ _ _ q)⟩
def dNoPart : DTO := fun _ n q _ => q none n
def dPart (f : DTE) : DTO := fun δ n q e => f δ n (fun x n1 => match x with | .int i => q (some i) n1 | _ => False) e
theorem do_none : PO X none (liftO M W dNoPart) := POw po_none fun σ H Q ⟨pn, G, n, δ, q, e, R, hf, hQ, hX⟩ => hQ G none n H Adv.refl R hf
theorem do_some {a : Expr} {f : DTE} (h : PE X a (liftE M W f)) : PO X (some a) (liftO M W (dPart f)) := POw (po_some h) fun σ H Q ⟨pn, G, n, δ, q, e, R, hf, hQ, hX⟩ => by
  refine ⟨pn, G, n, δ, _, e, R, hf, fun G1 v d n1 H1 A1 R1 i1 h1 => ?_, hX⟩
  cases d with
  | int i =>
    simp only [Is] at i1
    exact ⟨i, i1, hQ G1 _ n1 H1 A1 R1 h1⟩
  | _ => exact h1.elim
def cutL {α : Type} (xs : List α) (lo hi : Option Int) : List α := (xs.drop (HT.sIx xs.length 0 lo)).take (HT.sIx xs.length xs.length hi - HT.sIx xs.length 0 lo)
def dSl (f : DTE) (lo hi : DTO) : DTE := fun δ n q e => f δ n (fun x n1 => lo δ n1 (fun i n2 => hi δ n2 (fun j n3 => match x with
  | .lst xs => q (.lst (cutL xs i j)) n3
  | .tup xs => q (.tup (cutL xs i j)) n3
  | .str l => l.length ≤ 100000 ∧ q (.str (cutL l i j)) n3
  | _ => False) e) e) e
def rSlX (K : Frag) : V → Option Int → Option Int → Hp → VK → Prop := fun x lo hi H Q => (rSlL K x lo hi H Q ∨ rSlA K x lo hi H Q) ∨ rSlS x lo hi H Q
theorem sl_X (hK : X.K = M.L.K) : SlR X (rSlX M.L.K) := hK ▸ SlR.or (SlR.or sl_list sl_tupA) sl_str
theorem cutL_id {α : Type} {xs : List α} {lo hi : Option Int} (h : HT.sIx xs.length 0 lo = 0 ∧ HT.sIx xs.length xs.length hi = xs.length) : cutL xs lo hi = xs := by
  unfold cutL
  rw [h.1, h.2, List.drop_zero, Nat.sub_zero, List.take_length]
theorem IsL.cut {G : Hp} {ds : List D} {vs : List V} {lo hi : Option Int} (h : IsL M G vs ds) : IsL M G (cutV vs lo hi) (cutL ds lo hi) := by
  unfold cutV cutL
  rw [h.length]
  exact IsL.take _ (IsL.drop _ h)
theorem dp_slice {a : Expr} {lo hi : Option Expr} {p2 pos : Pos} {f : DTE} {fl fh : DTO} (h : PE X (.Subscript a (.Slice lo hi none p2) pos) (tSl (rSlX M.L.K) (liftE M W f) (liftO M W fl) (liftO M W fh))) : PE X (.Subscript a (.Slice lo hi none p2) pos) (liftE M W (dSl f fl fh)) :=
  PEw h fun σ H Q ⟨pn, G, n, δ, q, e, R, hf, hQ, hX⟩ => by
    refine ⟨pn, G, n, δ, _, e, R, hf, fun G1 v d n1 H1 A1 R1 i1 h1 => ?_, hX⟩
    refine ⟨pn, G1, n1, δ, _, e, R1, h1, fun G2 i n2 H2 A2 R2 h2 => ?_, hX.on R A1⟩
    have A12 := R.tr A1 A2
    refine ⟨pn, G2, n2, δ, _, e, R2, h2, fun G3 j n3 H3 A3 R3 h3 => ?_, hX.on R A12⟩
    have A13 := R.tr A12 A3
    have i3 := Is.up (A2.ge.trans A3.ge) d v i1
    cases d with
    | lst xs =>
      simp only [Is] at i3
      obtain ⟨p, vs, rfl, e1, e2⟩ := i3
      refine .inl (.inl ⟨p, vs, rfl, SqL.of (R3.ex _ _ e1), fun l hl => ?_⟩)
      obtain ⟨R4, A4⟩ := R3.lay (o := .lst (cutV vs i j)) hl notTbl_lst
      exact hQ _ _ (.lst (cutL xs i j)) n3 _ (R.tr A13 A4) R4 (by simp only [Is]; exact ⟨l, _, rfl, upd_same, IsL.up A4.ge _ _ e2.cut⟩) h3
    | tup xs =>
      have i3' := i3
      simp only [Is] at i3
      obtain ⟨p, vs, rfl, e1, e2⟩ := i3
      refine .inl (.inr ⟨p, vs, rfl, R3.ex.seqT e1, fun hz => ?_, fun _ l hl => ?_⟩)
      · rw [e2.length] at hz
        have h3' : q (.tup (cutL xs i j)) n3 := h3
        rw [cutL_id hz] at h3'
        exact hQ _ _ (.tup xs) n3 _ A13 R3 i3' h3'
      · obtain ⟨R4, A4⟩ := R3.lay (o := .tup (cutV vs i j)) hl notTbl_tup
        exact hQ _ _ (.tup (cutL xs i j)) n3 _ (R.tr A13 A4) R4 (by simp only [Is]; exact ⟨l, _, rfl, SqT.of upd_same, IsL.up A4.ge _ _ e2.cut⟩) h3
    | str l =>
      simp only [Is] at i3
      refine .inr ⟨S l, i3, by rw [S_len]; exact le_line h3.1, hQ _ _ (.str (cutL l i j)) n3 _ A13 R3 ?_ h3.2⟩
      simp only [Is]
      unfold cutS cutL
      rw [S_cps, S_len]
    | _ => exact h3.elim
end
end DL

set_option Elab.async false
set_option linter.all false
set_option maxRecDepth 100000
set_option maxHeartbeats 4000000
set_option autoImplicit false
/-! The data layer: calls of built-ins, methods of texts. -/
namespace DL
open PySem PySem.Spec PyProof.Rows L2
section
variable {X : Cx} {M : LK} {W : WX}
abbrev GC := List D → NS → (D → NS → Prop) → Prop
theorem dp_bfn {x : Str} {p pos : Pos} {e : Expr} {es : List Expr} {id : String} {r : List V → Hp → VK → Prop} {g : GC} {f : DTA} (hc : CallR X (.builtin id) r) (hr : DRC M r g) (hg : Gl X x) (hm : X.mg x = none) (hv : bootBuiltins x = some (.builtin id)) (ha : PA X (e :: es) (liftA M W f)) (hn : x ≠ "__name__" := by decide) (hdb : (x == ("__debug__" : Str)) = false := by decide)
    (he : starEach (e :: es) X.env = (false, eval e X.env) :: starEach es X.env := by exact starEach_cons rfl) (hpl : (backTo pos (starEach es X.env)).any (·.1) = false := by rfl) : PE X (.Call (.Name x p) (e :: es) [] pos) (liftE M W (dCB g f)) :=
  dp_cb (pe_callB hc hg hm hv ha hn hdb he hpl) hr
theorem dp_bty {x : Str} {p pos : Pos} {e : Expr} {es : List Expr} {T : String} {r : List V → Hp → VK → Prop} {g : GC} {f : DTA} (hc : CallR X (.type T) r) (hr : DRC M r g) (hg : Gl X x) (hm : X.mg x = none) (hv : bootBuiltins x = some (.type T)) (ha : PA X (e :: es) (liftA M W f)) (hn : x ≠ "__name__" := by decide) (hdb : (x == ("__debug__" : Str)) = false := by decide)
    (he : starEach (e :: es) X.env = (false, eval e X.env) :: starEach es X.env := by exact starEach_cons rfl) (hpl : (backTo pos (starEach es X.env)).any (·.1) = false := by rfl) : PE X (.Call (.Name x p) (e :: es) [] pos) (liftE M W (dCB g f)) :=
  dp_cb (pe_callTy hc hg hm hv ha hn hdb he hpl) hr
/-- the name of a built-in type -/
theorem dp_ty {x : Str} {pos : Pos} {T : String} (hg : Gl X x) (hm : X.mg x = none) (hv : bootBuiltins x = some (.type T)) (hn : x ≠ "__name__" := by decide) (hd : (x == ("__debug__" : Str)) = false := by decide) : PE X (.Name x pos) (liftE M W (dC (.ty T))) :=
  dp_c (pe_bltn (v := .ty T) hg hm hv rfl hn hd) fun _ => by simp only [Is]
/-- the name of an own class -/
theorem dp_cls {x : Str} {pos : Pos} {C : Addr} (hg : Gl X x) (hm : X.mg x = some (.ref C)) (hd : (x == ("__debug__" : Str)) = false := by decide) : PE X (.Name x pos) (liftE M W (dC (.ref C))) :=
  dp_c (pe_glob (v := .ref C) hg hm rfl hd) fun _ => by simp only [Is]
theorem IsL.one {G : Hp} {vs : List V} {d : D} (h : IsL M G vs [d]) : ∃ v, vs = [v] ∧ Is M G v d := by
  match vs, h with
  | [v], h => simp only [IsL] at h; exact ⟨v, rfl, h.1⟩
  | [], h => simp only [IsL] at h
  | _ :: _ :: _, h => simp only [IsL, and_false] at h
theorem IsL.two {G : Hp} {vs : List V} {d d' : D} (h : IsL M G vs [d, d']) : ∃ v v', vs = [v, v'] ∧ Is M G v d ∧ Is M G v' d' := by
  match vs, h with
  | [v, v'], h => simp only [IsL] at h; exact ⟨v, v', rfl, h.1, h.2.1⟩
  | [], h => simp only [IsL] at h
  | [_], h => simp only [IsL, and_false] at h
  | _ :: _ :: _ :: _, h => simp only [IsL, and_false] at h
/-! ### len -/
def gLen : GC := fun xs n q => match xs with
  | [.str l] => l.length ≤ 100000 ∧ q (.int (l.length : Nat)) n
  | [.lst ys] => q (.int (ys.length : Nat)) n
  | [.tup ys] => q (.int (ys.length : Nat)) n
  | [.ref a] => ∃ ys, n.mu a = some (.lst ys) ∧ q (.int (ys.length : Nat)) n
  | _ => False
theorem drc_len (hK : X.K = M.L.K) : DRC M (fun xs H Q => ∃ x n, xs = [x] ∧ LenV X.K x H n ∧ Q (.int (n : Nat)) H) gLen := by
  intro pn G n σ δ H vs xs q Q R iv h k
  unfold gLen at h
  split at h
  · rename_i l
    obtain ⟨v, rfl, iw⟩ := iv.one; clear iv; rename Is M G v _ => iv
    have iv' := iv
    simp only [Is] at iv'
    subst iv'
    exact ⟨_, l.length, rfl, ⟨by rw [S_len]; exact le_line h.1, by rw [S_len]⟩, k G _ _ n H Adv.refl R (by simp only [Is]) h.2⟩
  · rename_i ys
    obtain ⟨v, rfl, iw⟩ := iv.one; clear iv; rename Is M G v _ => iv
    simp only [Is] at iv
    obtain ⟨p, us, rfl, h1, h2⟩ := iv
    exact ⟨_, ys.length, rfl, .inl ⟨us, SqL.of (R.ex _ _ h1), h2.length.symm⟩, k G _ _ n H Adv.refl R (by simp only [Is]) h⟩
  · rename_i ys
    obtain ⟨v, rfl, iw⟩ := iv.one; clear iv; rename Is M G v _ => iv
    simp only [Is] at iv
    obtain ⟨p, us, rfl, h1, h2⟩ := iv
    exact ⟨_, ys.length, rfl, .inr ⟨us, by rw [hK]; exact R.ex.seqT h1, h2.length.symm⟩, k G _ _ n H Adv.refl R (by simp only [Is]) h⟩
  · rename_i a
    obtain ⟨v, rfl, iw⟩ := iv.one; clear iv; rename Is M G v _ => iv
    obtain ⟨ys, hm, h⟩ := h
    simp only [Is] at iv
    subst iv
    obtain ⟨u, h1, h2, _, _⟩ := R.mu a _ hm
    cases u <;> simp only [MIs] at h2
    exact ⟨_, ys.length, rfl, .inl ⟨_, SqL.of h1, h2.length.symm⟩, k G _ _ n H Adv.refl R (by simp only [Is]) h⟩
  · exact h.elim
/-! ### int -/
def gInt : GC := fun xs n q => match xs with
  | [.int i] => q (.int i) n
  | [.bl b] => q (.int (if b then 1 else 0)) n
  | _ => False
theorem drc_int : DRC M (fun xs H Q => (∃ i, xs = [.int i] ∧ Q (.int i) H) ∨ ∃ k : Bool, xs = [.bl k] ∧ Q (.int (if k then 1 else 0)) H) gInt := by
  intro pn G n σ δ H vs xs q Q R iv h k
  unfold gInt at h
  split at h
  · rename_i i
    obtain ⟨v, rfl, iw⟩ := iv.one; clear iv; rename Is M G v _ => iv
    simp only [Is] at iv
    subst iv
    exact .inl ⟨_, rfl, k G _ _ n H Adv.refl R (by simp only [Is]) h⟩
  · rename_i b
    obtain ⟨v, rfl, iw⟩ := iv.one; clear iv; rename Is M G v _ => iv
    simp only [Is] at iv
    subst iv
    exact .inr ⟨_, rfl, k G _ _ n H Adv.refl R (by simp only [Is]) h⟩
  · exact h.elim
/-! ### abs, max, min -/
def gAbs : GC := fun xs n q => match xs with | [.int i] => q (.int (if i < 0 then -i else i)) n | _ => False
theorem drc_abs : DRC M (fun xs H Q => ∃ i : Int, xs = [.int i] ∧ Q (.int (if i < 0 then -i else i)) H) gAbs := by
  intro pn G n σ δ H vs xs q Q R iv h k
  unfold gAbs at h
  split at h
  · rename_i i
    obtain ⟨v, rfl, iw⟩ := iv.one; clear iv; rename Is M G v _ => iv
    simp only [Is] at iv
    subst iv
    exact ⟨_, rfl, k G _ _ n H Adv.refl R (by simp only [Is]) h⟩
  · exact h.elim
def gMax : GC := fun xs n q => match xs with | [.int i, .int j] => q (.int (if j > i then j else i)) n | _ => False
def gMin : GC := fun xs n q => match xs with | [.int i, .int j] => q (.int (if j < i then j else i)) n | _ => False
theorem drc_max : DRC M (fun xs H Q => ∃ i j : Int, xs = [.int i, .int j] ∧ Q (.int (if j > i then j else i)) H) gMax := by
  intro pn G n σ δ H vs xs q Q R iv h k
  unfold gMax at h
  split at h
  · rename_i i j
    obtain ⟨v, v', rfl, iw, iw'⟩ := iv.two; clear iv; rename Is M G v _ => iv; rename Is M G v' _ => iv'
    simp only [Is] at iv iv'
    subst iv; subst iv'
    exact ⟨_, _, rfl, k G _ _ n H Adv.refl R (by simp only [Is]) h⟩
  · exact h.elim
theorem drc_min : DRC M (fun xs H Q => ∃ i j : Int, xs = [.int i, .int j] ∧ Q (.int (if j < i then j else i)) H) gMin := by
  intro pn G n σ δ H vs xs q Q R iv h k
  unfold gMin at h
  split at h
  · rename_i i j
    obtain ⟨v, v', rfl, iw, iw'⟩ := iv.two; clear iv; rename Is M G v _ => iv; rename Is M G v' _ => iv'
    simp only [Is] at iv iv'
    subst iv; subst iv'
    exact ⟨_, _, rfl, k G _ _ n H Adv.refl R (by simp only [Is]) h⟩
  · exact h.elim
/-! ### list -/
def gList : GC := fun xs n q => match xs with
  | [.lst ys] => q (.lst ys) n
  | [.tup ys] => q (.lst ys) n
  | [.str l] => l.length ≤ 100000 ∧ q (.lst (l.map fun c => .str [c])) n
  | _ => False
theorem IsL.signs {G : Hp} : ∀ (l : List Nat), IsL M G (l.map fun c => V.str ⟨#[c]⟩) (l.map fun c => .str [c])
  | [] => by simp only [List.map_nil, IsL]
  | c :: l => by
    simp only [List.map_cons, IsL]
    exact ⟨by simp only [Is], IsL.signs l⟩
theorem cl_list (hc : X.calm = true) : CallR X (.type "list") (fun xs H Q => (∃ p ys, xs = [.ref p] ∧ (SqL X.K H p ys ∨ SqT X.K H p ys) ∧ ∀ l, H l = none → Q (.ref l) (upd H l (.lst ys))) ∨ ∃ z : Str, xs = [.str z] ∧ z.length ≤ sizeLine ∧ ∀ l, H l = none → Q (.ref l) (upd H l (.lst (z.cps.toList.map fun c => V.str ⟨#[c]⟩)))) := CallR.or call_list_of (call_list_str hc)
theorem drc_list (hK : X.K = M.L.K) : DRC M (fun xs H Q => (∃ p ys, xs = [.ref p] ∧ (SqL X.K H p ys ∨ SqT X.K H p ys) ∧ ∀ l, H l = none → Q (.ref l) (upd H l (.lst ys))) ∨ ∃ z : Str, xs = [.str z] ∧ z.length ≤ sizeLine ∧ ∀ l, H l = none → Q (.ref l) (upd H l (.lst (z.cps.toList.map fun c => V.str ⟨#[c]⟩)))) gList := by
  intro pn G n σ δ H vs xs q Q R iv h k
  unfold gList at h
  split at h
  · rename_i ys
    obtain ⟨v, rfl, iw⟩ := iv.one; clear iv; rename Is M G v _ => iv
    simp only [Is] at iv
    obtain ⟨p, us, rfl, h1, h2⟩ := iv
    refine .inl ⟨p, us, rfl, .inl (SqL.of (R.ex _ _ h1)), fun l hl => ?_⟩
    obtain ⟨R2, A2⟩ := R.lay (o := .lst us) hl notTbl_lst
    exact k _ _ _ n _ A2 R2 (by simp only [Is]; exact ⟨l, us, rfl, upd_same, IsL.up A2.ge _ _ h2⟩) h
  · rename_i ys
    obtain ⟨v, rfl, iw⟩ := iv.one; clear iv; rename Is M G v _ => iv
    simp only [Is] at iv
    obtain ⟨p, us, rfl, h1, h2⟩ := iv
    refine .inl ⟨p, us, rfl, .inr (by rw [hK]; exact R.ex.seqT h1), fun l hl => ?_⟩
    obtain ⟨R2, A2⟩ := R.lay (o := .lst us) hl notTbl_lst
    exact k _ _ _ n _ A2 R2 (by simp only [Is]; exact ⟨l, us, rfl, upd_same, IsL.up A2.ge _ _ h2⟩) h
  · rename_i l0
    obtain ⟨v, rfl, iw⟩ := iv.one; clear iv; rename Is M G v _ => iv
    simp only [Is] at iv
    subst iv
    refine .inr ⟨S l0, rfl, by rw [S_len]; exact le_line h.1, fun l hl => ?_⟩
    rw [S_cps]
    obtain ⟨R2, A2⟩ := R.lay (o := .lst (l0.map fun c => V.str ⟨#[c]⟩)) hl notTbl_lst
    exact k _ _ _ n _ A2 R2 (by simp only [Is]; exact ⟨l, _, rfl, upd_same, IsL.signs l0⟩) h.2
  · exact h.elim
/-! ### all, any -/
def blsD : List D → Option (List Bool)
  | [] => some []
  | .bl b :: r => (blsD r).map (b :: ·)
  | _ :: _ => none
theorem blsD_ok {G : Hp} : ∀ {ds : List D} {vs : List V} {bs : List Bool}, IsL M G vs ds → blsD ds = some bs → vs = bs.map V.bl
  | [], [], bs, _, e => by simp only [blsD] at e; cases e; rfl
  | .bl b :: r, v :: vs, bs, h, e => by
    simp only [blsD] at e
    simp only [IsL, Is] at h
    cases e1 : blsD r with
    | none => rw [e1] at e; cases e
    | some bs' =>
      rw [e1] at e
      cases e
      rw [h.1, blsD_ok h.2 e1]
      rfl
  | [], _ :: _, _, h, _ => by simp only [IsL] at h
  | _ :: _, [], _, h, _ => by simp only [IsL] at h
theorem blsD_map (l : List Bool) : blsD (l.map D.bl) = some l := by
  induction l with
  | nil => rfl
  | cons b l ih => simp [blsD, ih]
def gAll : GC := fun xs n q => match xs with | [.lst ys] => (match blsD ys with | some bs => q (.bl (bs.all id)) n | none => False) | _ => False
def gAny : GC := fun xs n q => match xs with | [.lst ys] => (match blsD ys with | some bs => q (.bl (bs.any id)) n | none => False) | _ => False
theorem drc_all (hK : X.K = M.L.K) : DRC M (rAll X.K) gAll := by
  intro pn G n σ δ H vs xs q Q R iv h k
  unfold gAll at h
  split at h
  · rename_i ys
    obtain ⟨v, rfl, iw⟩ := iv.one; clear iv; rename Is M G v _ => iv
    simp only [Is] at iv
    obtain ⟨p, us, rfl, h1, h2⟩ := iv
    cases e : blsD ys with
    | none => rw [e] at h; exact h.elim
    | some bs =>
      rw [e] at h
      refine ⟨p, bs, rfl, SqL.of ?_, k G _ _ n H Adv.refl R (by simp only [Is]) h⟩
      rw [← blsD_ok h2 e]
      exact R.ex _ _ h1
  · exact h.elim
theorem drc_any (hK : X.K = M.L.K) : DRC M (rAny X.K) gAny := by
  intro pn G n σ δ H vs xs q Q R iv h k
  unfold gAny at h
  split at h
  · rename_i ys
    obtain ⟨v, rfl, iw⟩ := iv.one; clear iv; rename Is M G v _ => iv
    simp only [Is] at iv
    obtain ⟨p, us, rfl, h1, h2⟩ := iv
    cases e : blsD ys with
    | none => rw [e] at h; exact h.elim
    | some bs =>
      rw [e] at h
      refine ⟨p, bs, rfl, SqL.of ?_, k G _ _ n H Adv.refl R (by simp only [Is]) h⟩
      rw [← blsD_ok h2 e]
      exact R.ex _ _ h1
  · exact h.elim
/-! ### isinstance -/
/-- the type of a tree of built-in values -/
def kindD : D → Option String
  | .non => some "NoneType"
  | .bl _ => some "bool"
  | .int _ => some "int"
  | .str _ => some "str"
  | .lst _ => some "list"
  | .tup _ => some "tuple"
  | .dct => some "dict"
  | _ => none
/-- what an own class must have for isinstance of its instances -/
structure InsC (K : PySem.W.Frag) (C : Addr) : Prop where
  cl : Cls K C
  ha : PySem.W.findIn K (.ref C) "__class__" = some (some (.builtin "object.__class__"))
  hn : PySem.W.specialIn K (.builtin "object.__class__") "__get__" = some (some (.builtin "getset_descriptor.__get__"))
  htk : PySem.W.takesIn K (.builtin "object.__class__") = some true
  hm : PySem.W.mroIn K C (.type "object") = some true
def tyD (K : PySem.W.Frag) (x : D) (t : Value) : Prop := (∃ s, kindD x = some s ∧ t = .type s) ∨ ∃ C ns ys, x = .ins C ns ys ∧ t = .ref C ∧ InsC K C
def clsD : D → Option Value
  | .ty s => some (.type s)
  | .ref C => some (.ref C)
  | _ => none
/-- isinstance(x, c) -/
def isiD (K : PySem.W.Frag) (x c : D) (k : Bool → Prop) : Prop := match kindD x, c with
  | some s, .ty t => (match kitB s t with | some b => k b | none => False)
  | _, _ => ∃ t u b, tyD K x t ∧ clsD c = some u ∧ PySem.W.kitOne K t u = some b ∧ k b
theorem tyD_ok {G H : Hp} (hx : Ext G H) {v : V} {x : D} {t : Value} (h : tyD M.L.K x t) (iv : Is M G v x) : TyX M.L.K H v t := by
  rcases h with ⟨s, h, rfl⟩ | ⟨C, ns, ys, rfl, rfl, I⟩
  · cases x <;> simp only [kindD] at h <;> cases h
    · simp only [Is] at iv; subst iv; exact .base .non
    · simp only [Is] at iv; subst iv; exact .base (.bl _)
    · simp only [Is] at iv; subst iv; exact .base (.int _)
    · simp only [Is] at iv; subst iv; exact .base (.str _)
    · simp only [Is] at iv
      obtain ⟨p, us, rfl, h1, h2⟩ := iv
      exact .base (.lst (hx _ _ h1))
    · simp only [Is] at iv
      obtain ⟨p, us, rfl, h1, h2⟩ := iv
      rcases hx.seqT h1 with (h1 | ⟨o, h1⟩) | ⟨o, its, n, h1, h3, _⟩
      · exact .base (.tup h1)
      · exact .fTuple h1
      · exact .kTuple h1 h3
    · simp only [Is] at iv
      obtain ⟨p, rfl, h1⟩ := iv
      exact .base (.dK (hx _ _ h1))
  · simp only [Is] at iv
    obtain ⟨p, dx, fs, rfl, h1, h2, h3⟩ := iv
    exact .base (.ins (hx _ _ h1) I.cl I.ha I.hn I.htk I.hm)
theorem clsD_ok {G : Hp} {v : V} {c : D} {u : Value} (h : clsD c = some u) (iv : Is M G v c) : ClsV v u := by
  cases c <;> simp only [clsD] at h <;> cases h
  · simp only [Is] at iv; subst iv; exact .ty _
  · simp only [Is] at iv; subst iv; exact .own _
theorem isiD_ok {x c : D} {k : Bool → Prop} (h : isiD M.L.K x c k) : ∃ t u b, tyD M.L.K x t ∧ clsD c = some u ∧ PySem.W.kitOne M.L.K t u = some b ∧ k b := by
  unfold isiD at h
  split at h
  · rename_i s t e
    cases e1 : kitB s t with
    | none => rw [e1] at h; exact h.elim
    | some b =>
      rw [e1] at h
      exact ⟨.type s, .type t, b, .inl ⟨s, e, rfl⟩, rfl, kit_ty e1, h⟩
  · exact h
def gIsi (K : PySem.W.Frag) : GC := fun xs n q => match xs with | [x, c] => isiD K x c fun b => q (.bl b) n | _ => False
theorem drc_isi (hK : X.K = M.L.K) : DRC M (rIsi X.K) (gIsi M.L.K) := by
  intro pn G n σ δ H vs xs q Q R iv h k
  unfold gIsi at h
  split at h
  · rename_i x c
    obtain ⟨v, v', rfl, iw, iw'⟩ := iv.two; clear iv; rename Is M G v _ => iv; rename Is M G v' _ => iv'
    obtain ⟨t, u, b, ht, hu, hb, h⟩ := isiD_ok h
    exact ⟨v, v', t, u, b, rfl, clsD_ok hu iv', by rw [hK]; exact tyD_ok R.ex ht iv, by rw [hK]; exact hb, k G _ _ n H Adv.refl R (by simp only [Is]) h⟩
  · exact h.elim
theorem kit_int_int : kitB "int" "int" = some true := by decide +kernel
theorem kit_int_bool : kitB "int" "bool" = some false := by decide +kernel
theorem kit_int_str : kitB "int" "str" = some false := by decide +kernel
theorem kit_int_list : kitB "int" "list" = some false := by decide +kernel
theorem kit_int_tuple : kitB "int" "tuple" = some false := by decide +kernel
theorem kit_bool_int : kitB "bool" "int" = some true := by decide +kernel
theorem kit_bool_bool : kitB "bool" "bool" = some true := by decide +kernel
theorem kit_bool_str : kitB "bool" "str" = some false := by decide +kernel
theorem kit_bool_list : kitB "bool" "list" = some false := by decide +kernel
theorem kit_bool_tuple : kitB "bool" "tuple" = some false := by decide +kernel
theorem kit_str_int : kitB "str" "int" = some false := by decide +kernel
theorem kit_str_bool : kitB "str" "bool" = some false := by decide +kernel
theorem kit_str_str : kitB "str" "str" = some true := by decide +kernel
theorem kit_str_list : kitB "str" "list" = some false := by decide +kernel
theorem kit_str_tuple : kitB "str" "tuple" = some false := by decide +kernel
theorem kit_non_int : kitB "NoneType" "int" = some false := by decide +kernel
theorem kit_non_bool : kitB "NoneType" "bool" = some false := by decide +kernel
theorem kit_non_str : kitB "NoneType" "str" = some false := by decide +kernel
theorem kit_non_list : kitB "NoneType" "list" = some false := by decide +kernel
theorem kit_non_tuple : kitB "NoneType" "tuple" = some false := by decide +kernel
theorem kit_list_int : kitB "list" "int" = some false := by decide +kernel
theorem kit_list_bool : kitB "list" "bool" = some false := by decide +kernel
theorem kit_list_str : kitB "list" "str" = some false := by decide +kernel
theorem kit_list_list : kitB "list" "list" = some true := by decide +kernel
theorem kit_list_tuple : kitB "list" "tuple" = some false := by decide +kernel
theorem kit_tuple_int : kitB "tuple" "int" = some false := by decide +kernel
theorem kit_tuple_bool : kitB "tuple" "bool" = some false := by decide +kernel
theorem kit_tuple_str : kitB "tuple" "str" = some false := by decide +kernel
theorem kit_tuple_list : kitB "tuple" "list" = some false := by decide +kernel
theorem kit_tuple_tuple : kitB "tuple" "tuple" = some true := by decide +kernel
/-! ### methods of texts -/
abbrev GM := D → List D → NS → (D → NS → Prop) → Prop
def gUpper : GM := fun x xs n q => match x, xs with | .str l, [] => l.length ≤ 100000 ∧ l.all (· < 128) = true ∧ q (.str (l.map up1)) n | _, _ => False
def gLower : GM := fun x xs n q => match x, xs with | .str l, [] => l.length ≤ 100000 ∧ l.all (· < 128) = true ∧ q (.str (l.map lo1)) n | _, _ => False
theorem drm_upper : DRM M (fun x xs H Q => ∃ a, x = .str a ∧ xs = [] ∧ a.length ≤ 5592405 ∧ Q (.str (Txt.upper a)) H) gUpper := by
  intro pn G n σ δ H v vs x xs q Q R iv ivs h k
  unfold gUpper at h
  split at h
  · rename_i l
    simp only [Is] at iv
    have e := ivs.length
    have e2 : vs = [] := List.eq_nil_of_length_eq_zero e
    subst e2
    exact ⟨S l, iv, rfl, by rw [S_len]; exact Nat.le_trans h.1 (by decide), k G _ _ n H Adv.refl R (by simp only [Is]; rw [show Txt.upper (S l) = S (l.map up1) from SX.upper_S h.2.1]) h.2.2⟩
  · exact h.elim
theorem drm_lower : DRM M (fun x xs H Q => ∃ a, x = .str a ∧ xs = [] ∧ a.length ≤ 5592405 ∧ Q (.str (Txt.lower a)) H) gLower := by
  intro pn G n σ δ H v vs x xs q Q R iv ivs h k
  unfold gLower at h
  split at h
  · rename_i l
    simp only [Is] at iv
    have e := ivs.length
    have e2 : vs = [] := List.eq_nil_of_length_eq_zero e
    subst e2
    exact ⟨S l, iv, rfl, by rw [S_len]; exact Nat.le_trans h.1 (by decide), k G _ _ n H Adv.refl R (by simp only [Is]; rw [show Txt.lower (S l) = S (l.map lo1) from SX.lower_S h.2.1]) h.2.2⟩
  · exact h.elim
/-- text.index(text), found -/
def gIndex : GM := fun x xs n q => match x, xs with
  | .str a, [.str b] => ∃ i rest, Builtin.Str.occurrences (S a) (S b) 0 (S a).length 1 = i :: rest ∧ q (.int (i : Nat)) n
  | _, _ => False
theorem drm_index : DRM M (fun x xs H Q => ∃ a b i rest, x = .str a ∧ xs = [.str b] ∧ Builtin.Str.occurrences a b 0 a.length 1 = i :: rest ∧ Q (.int (i : Nat)) H) gIndex := by
  intro pn G n σ δ H v vs x xs q Q R iv ivs h k
  unfold gIndex at h
  split at h
  · rename_i a b
    simp only [Is] at iv
    obtain ⟨u, rfl, iu⟩ := ivs.one
    simp only [Is] at iu
    obtain ⟨i, rest, e, h⟩ := h
    exact ⟨S a, S b, i, rest, iv, by rw [iu], e, k G _ _ n H Adv.refl R (by simp only [Is]) h⟩
  · exact h.elim
theorem pe_index {o e : Expr} {to te : TE} {apos pos : Pos} (ho : PE X o to) (he : PE X e te) (hs : starEach [e] X.env = [(false, eval e X.env)] := by rfl) (hbase : attributeBase o "index" X.env (eval o X.env) = eval o X.env := by rfl) (hline : (apos.endLine == pos.line) = true := by rfl) :
    PE X (.Call (.Attribute o "index" apos) [e] [] pos) (tM1 (fun x xs H Q => ∃ a b i rest, x = .str a ∧ xs = [.str b] ∧ Builtin.Str.occurrences a b 0 a.length 1 = i :: rest ∧ Q (.int (i : Nat)) H) to te) :=
  pe_m1 F.slot_str_index F.type_str_index mt_sindex ho he hs hbase hline
end
end DL

set_option Elab.async false
set_option linter.all false
set_option maxRecDepth 100000
set_option maxHeartbeats 4000000
set_option autoImplicit false
/-! An own exception class called with keywords. -/
namespace PySem
namespace EK
open PySem.W PySem.Calls PyProof.Rows PySem.HandSPX
section
variable {M : Model} {A : Around} {E : Value → Shared → Prop} {h : Heap} {g : Array GenState} {d : Drawn} {t : Nat} {os : OsState}
variable {nm q : Str} {C N : Addr} {bs bm bmB : List Value} {hdct : Bool} {sn : List Str} {sub : List Value} {ab : Bool} {col : Option Bool} {dd : Option Addr} {k0 k1 k2 k3 k5 : Option Value} {B newId initId : String}
theorem chk_new (F : ExcBaseFacts B newId initId bmB) (hT : ∀ X : String, bm.contains (.type X) = bmB.contains (.type X)) {us : List Value} {kw : List (Str × Value)} {Q : Unit → Shared → Prop}
    (hC : h.get? C = some (excClassObj nm q C N bs bm hdct sn sub ab col dd k0 k1 k2 k3 k5 newId)) (hq : Q () ⟨h, g, d, t, os⟩) : wpAny M A (checkBuiltinCall newId ⟨.ref C :: us, kw⟩) Q E ⟨h, g, d, t, os⟩ := by
  have hB : (Value.ref C :: bm).contains (.type B) = true := by rw [List.contains_cons, hT, F.hasB, Bool.or_true]
  have hs := F.noStar
  simp only [checkBuiltinCall, F.newKind, F.newSplit, F.newRow]
  repeat (first | refine wpAny_loadPart_at hC ?_ | (refine wpAny_isSubtype_exc hC ?_; rw [hB]) | refine wpAny_staticBase_exc hC ?_ | refine wpAny_madeBy_exc hC ?_ | simp only [bne_self_eq_false, Bool.false_eq_true, if_false] | wp_step)
  exact hq
end
section
variable {prog : Program} {w : World} {A : Around} {E : Value → Shared → Prop} {R : Result → Shared → Prop} {h : Heap} {g : Array GenState} {d : Drawn} {t : Nat} {os : OsState}
variable {nm q : Str} {C N : Addr} {bs bm bmB : List Value} {hdct : Bool} {sn : List Str} {sub : List Value} {ab : Bool} {col : Option Bool} {dd : Option Addr} {k0 k1 k2 k3 k5 : Option Value} {B newId initId : String}
theorem mk_new (F : ExcBaseFacts B newId initId bmB) (hT : ∀ X : String, bm.contains (.type X) = bmB.contains (.type X)) {us : List Value} {kw : List (Str × Value)}
    (hC : h.get? C = some (excClassObj nm q C N bs bm hdct sn sub ab col dd k0 k1 k2 k3 k5 newId))
    (hq : R (.ok (.ret (.ref (h.objs.size + 1)))) ⟨(h.push { cls := .type "tuple", data := .seq us.toArray }).push { cls := .ref C, data := .fields #[.ref h.objs.size, .none, .none, .none, .bool false, .none] }, g, d, t, os⟩) (hz : us.length ≤ sizeLine) :
    codeAny (model prog w) A (.builtin newId ⟨.ref C :: us, kw⟩) R ⟨h, g, d, t, os⟩ := by
  have he := F.ends
  have hB : (Value.ref C :: bm).contains (.type B) = true := by rw [List.contains_cons, hT, F.hasB, Bool.or_true]
  have hA : (Value.ref C :: bm).contains (.type "AttributeError") = false := by rw [List.contains_cons, hT, F.noAttr]; rfl
  have hN : (Value.ref C :: bm).contains (.type "NameError") = false := by rw [List.contains_cons, hT, F.noName]; rfl
  refine codeAny_builtinAt F.entry ?_
  unfold Builtin.«BaseException.__new__»
  refine wpAt_bind ?_
  show wpAt _ _ _ (stack >>= _) _ _ _
  refine wpAt_bind (wpAt_stack fun p b => wpAt_of_wpAny ?_)
  wp_walk
  refine wpAt_of_wpAny ?_
  rw [F.owner]
  repeat (first | with_reducible refine wpAny_madeHere_exc F.canon hC ?_ | with_reducible refine wpAny_loadPart_at hC ?_ | (with_reducible refine wpAny_isSubtype_exc hC ?_; first | rw [hB] | rw [hA] | rw [hN]) | wp_step)
  show R _ _
  rw [Heap.size_push]
  exact hq
theorem tcall (F : ExcBaseFacts B newId initId bmB) (hT : ∀ X : String, bm.contains (.type X) = bmB.contains (.type X)) {us : List Value} {kw : List (Str × Value)} {fI : Value} {Q : Fin → Shared → Prop}
    (hC : h.get? C = some (excClassObj nm q C N bs bm hdct sn sub ab col dd k0 k1 k2 k3 k5 newId))
    (hi : Looks (model prog w) h (typeLookup (.ref C) "__init__") (some fI)) (hb : ∀ self, Looks (model prog w) h (bindSpecial fI self) (fI, [self])) (hz : us.length ≤ sizeLine)
    (hq : codeAny (model prog w) A (.call fI ⟨.ref (h.objs.size + 1) :: us, kw⟩)
      (fun r s' => match r with | .ok (.ret v) => v = .none ∧ Q (.done (.ret (.ref (h.objs.size + 1)))) s' | .ok _ => False | .error e => E e s')
      ⟨(h.push (kdv_tup us)).push (excO C h.objs.size), g, d, t, os⟩) :
    wpAny (model prog w) A (Builtin.«type.__call__» ⟨.ref C :: us, kw⟩) Q E ⟨h, g, d, t, os⟩ := by
  repeat (first | with_reducible refine wpAny_loadPart_at hC ?_ | with_reducible refine wpAny_madeBy_exc hC ?_ | wp_step)
  refine codeAny_call_builtin_code (Code.quiet_builtin _ F.quiet) (chk_new F hT hC ?_)
  refine mk_new F hT hC ?_ hz
  show wpAny _ _ _ _ _ _
  have k : ∀ b o, h.get? b = some o → ((h.push (kdv_tup us)).push (excO C h.objs.size)).get? b = some o := fun b o e => Heap.get?_push_of_some _ (Heap.get?_push_of_some _ e)
  have hC1 := k _ _ hC
  have hg : ((h.push (kdv_tup us)).push (excO C h.objs.size)).get? (h.objs.size + 1) = some (excO C h.objs.size) := by heap_get
  have hcC : (Value.ref C :: bm).contains (.ref C) = true := by simp
  have j1 := hi.keeps k
  have j2 := (hb (.ref (h.objs.size + 1))).keeps k
  unfold isInstance
  repeat (first | with_reducible refine wpAny_loadPart_at hg ?_ | (with_reducible refine wpAny_isSubtype_exc hC1 ?_; rw [hcC]) | wp_step)
  show wpAny _ _ (typeLookup (.ref C) _) _ _ _
  refine j1.at ?_
  refine wpAny_holding (wpAny_bind (j2.at ?_))
  refine wpAny_bind (wpAny_call (codeAny_mono hq fun r s' z => ?_))
  rcases r with e | (v | _ | _ | _) <;> first | exact z | exact z.elim | skip
  obtain ⟨rfl, z⟩ := z
  first
    | exact wpAny_pure (wpAny_pure z)
    | (wp_walk; exact z)
theorem call_kw (F : ExcBaseFacts B newId initId bmB) (hT : ∀ X : String, bm.contains (.type X) = bmB.contains (.type X)) {us : List Value} {kw : List (Str × Value)} {fI : Value}
    (hC : h.get? C = some (excClassObj nm q C N bs bm hdct sn sub ab col dd k0 k1 k2 k3 k5 newId))
    (hi : Looks (model prog w) h (typeLookup (.ref C) "__init__") (some fI)) (hb : ∀ self, Looks (model prog w) h (bindSpecial fI self) (fI, [self])) (hz : us.length ≤ sizeLine)
    (hq : codeAny (model prog w) (A.under (.builtin "type.__call__" ⟨.ref C :: us, kw⟩)) (.call fI ⟨.ref (h.objs.size + 1) :: us, kw⟩) (InitBack (h.objs.size + 1) R)
      ⟨(h.push (kdv_tup us)).push (excO C h.objs.size), g, d, t, os⟩) :
    codeAny (model prog w) A (.call (.ref C) ⟨us, kw⟩) R ⟨h, g, d, t, os⟩ := by
  have f1 := tc_lookup
  have f2 := tc_bind (.ref C)
  have hy : (⟨h, g, d, t, os⟩ : Shared).TypeIs (.ref C) "type" := ⟨_, hC, rfl⟩
  refine codeAny_of_tree ?_
  show wpAny _ _ (callAny (.ref C) _) _ _ _
  repeat (any_goals (first | assumption | with_reducible refine wpAny_loadPart_at hC ?_ | wp_step))
  refine ⟨rfl, ?_⟩
  refine codeAny_call_builtin_at (Code.quiet_builtin _ (by decide +kernel)) entry_typeCall (wpAny_check_type_call_sub hC (tcall F hT hC hi hb hz ?_))
  refine codeAny_mono hq fun r s' z => ?_
  rcases r with e | (v | _ | _ | _) <;> exact z
end
end EK
end PySem

set_option Elab.async false
set_option linter.all false
set_option maxRecDepth 100000
set_option maxHeartbeats 2000000
set_option autoImplicit false
/-! An own error of one field whose __init__ says super().__init__(f), above ValueError by way of other own classes: made, raised. -/
namespace PySem
namespace EX
open PySem.W PySem.Calls PyProof.Rows PySem.HandSPX
/-! ### the text of __init__ -/
def iA (f : Str) (p1 p2 : Pos) : Arguments := { posonlyargs := [], args := [{ arg := "self", annotation := none, pos := p1 }, { arg := f, annotation := none, pos := p2 }], vararg := none, kwonlyargs := [], kw_defaults := [], kwarg := none, defaults := [] }
def iB (f : Str) (a1 a2 a3 a4 a5 a6 b1 b2 b3 b4 : Pos) : List Stmt :=
  [.Expr (.Call (.Attribute (.Call (.Name "super" a1) [] [] a2) "__init__" a3) [.Name f a4] [] a5) a6, .Assign [.Attribute (.Name "self" b1) f b2] (.Name f b3) b4]
def iS (f : Str) : Scope := { kind := .function, names := [(PySem.Str.ofString "self", .local), (f, .local), (PySem.Str.ofString "__class__", .free), (PySem.Str.ofString "super", .globalImplicit)], isGenerator := false, isCoroutine := false, more := [] }
/-- what the written part says of the class x, at C, of its field f, and of its __init__, at fI -/
structure ErrTxt (P : Program) (K : Frag) (mg : Str → Option Value) (x f : Str) (C fI : Addr) : Prop where
  gC : mg x = some (.ref C)
  cls : ∃ nm q N bs bm sn sub ab col dd k0 k1 k2 k3 k5, K.lookup C = some (excClassObj nm q C N bs bm true sn sub ab col dd k0 k1 k2 k3 k5 "ValueError.__new__") ∧ refsVE bm = true
  sa : findIn K (.ref C) "__setattr__" = some (some (.builtin "object.__setattr__"))
  ga : findIn K (.ref C) "__getattribute__" = some (some (.builtin "BaseException.__getattribute__"))
  gg : findIn K (.ref C) "__getattr__" = some none
  noN : findIn K (.ref C) f = some none
  iC : findIn K (.ref C) "__init__" = some (some (.ref fI))
  tC : typeIn K (.ref fI) = some (.type "function")
  kC : keepIn K (.ref C) = true
  exC : subIn K (.ref C) (.type "BaseException") = some true
  veC : subIn K (.ref C) (.type "ValueError") = some true
  tyC : typeIn K (.ref C) = some (.type "type")
  hdC : hasDictIn K C = true
  sup : ks_superIn K C C "__init__" = some (some (.builtin "ValueError.__init__"))
  slf : mroIn K C (.ref C) = some true
  opq : nsIn K cStatics "thirdparty.any" = some none
  gS : mg "super" = none
  htop : (P.main.scope.names.lookup ("super" : Str)).isSome = false
  fself : (f == ("self" : Str)) = false
  fdb : (f == ("__debug__" : Str)) = false
  ks : (iS f).names.lookup ("super" : Str) = some .globalImplicit
  kc : (iS f).names.lookup ("__class__" : Str) = some .free
  fn : ∃ (oc : Value) (od : Option Addr) (doc pm : Value) (an : Option Addr) (cda cc : Addr) (ct : Value) (osl : Array (Option Value)) (qual : Str) (p1 p2 a1 a2 a3 a4 a5 a6 b1 b2 b3 b4 : Pos) (ccl : Value) (cdd : Option Addr) (vs : Array Value) (ccs : Array (Option Value)) (file : Str) (tf : Tok)
      (cl : Value) (cld : Option Addr) (csl : Array (Option Value)),
    K.lookup fI = some ⟨oc, od, .func (ksFn "__init__" qual (iA f p1 p2) (iB f a1 a2 a3 a4 a5 a6 b1 b2 b3 b4) (iS f) .none .none doc pm an (.ref cda) ct cc), osl⟩ ∧ codeIn K (.ref cda) qual = true ∧
    K.lookup cda = some ⟨ccl, cdd, .fields vs, ccs⟩ ∧ vs[2]? = some (.str file tf) ∧ ((P.main.file : Str) == file) = true ∧ K.lookup cc = some ⟨cl, cld, .cell (some (.ref C)), csl⟩ ∧
    (∀ (a b : Value), bindArgs (ksFn "__init__" qual (iA f p1 p2) (iB f a1 a2 a3 a4 a5 a6 b1 b2 b3 b4) (iS f) .none .none doc pm an (.ref cda) ct cc) ⟨[a, b], []⟩ = pure [(("self" : Str), a), (f, b)]) ∧
    (∀ (a b : Value), bindArgs (ksFn "__init__" qual (iA f p1 p2) (iB f a1 a2 a3 a4 a5 a6 b1 b2 b3 b4) (iS f) .none .none doc pm an (.ref cda) ct cc) ⟨[a], [(f, b)]⟩ = pure [(("self" : Str), a), (f, b)]) ∧
    (∀ env : Env, env.scope = iS f → ∃ pl, eval (.Call (.Attribute (.Call (.Name "super" a1) [] [] a2) "__init__" a3) [.Name f a4] [] a5) env = (do
      let ov ← attributeBase (.Call (.Name "super" a1) [] [] a2) "__init__" env (eval (.Call (.Name "super" a1) [] [] a2) env)
      standAt a3.atName
      let (g, first) ← holding [ov] (getMethod ov "__init__" pl)
      callWith a5 g first (backTo a5 (starEach [.Name f a4] env)) []))
theorem one_size (v : Value) : [v].length ≤ sizeLine := by
  rw [sizeLine_eq]
  exact (by decide : 1 ≤ 16777216)
theorem ldC {M : Model} {s : Shared} {env : Env} {m : Str → Option Value} {x : Str} {pos : Pos} {v : Value} {Q : Value → Shared → Prop} {A : Around} {E : Value → Shared → Prop} (hn : s.heap.Ns env.locals m) (hv : m x = some v) (h : Q v s)
    (hk : env.scope.kind = .function) (hl : env.kindOf x = some .local) (hd : (x == ("__debug__" : Str)) = false) : wpAny M A (eval (.Name x pos) env) Q E s := wpAny_Name (wpAny_loadName_local hk hl hn hv h) hd
/-- what __init__ leaves of a fresh exception at x -/
structure InitEnd (h h' : Heap) (x C dx t1 : Addr) (f : Str) (v : Value) : Prop where
  keep : ∀ b o, b ≠ x → h.get? b = some o → h'.get? b = some o
  obj : h'.get? x = some { cls := .ref C, dict := some dx, data := .fields #[.ref t1, .none, .none, .none, .bool false, .none] }
  dbig : h.objs.size ≤ dx
  dne : dx ≠ x
  ns : h'.Ns1 dx (fun y => if y = f then some v else none)
/-- a made one -/
structure OwnMade (h h' : Heap) (e C d : Addr) (f : Str) (v : Value) : Prop where
  keep : ∀ b o, h.get? b = some o → h'.get? b = some o
  new : h.objs.size ≤ e
  obj : ∃ oe vs, h'.get? e = some oe ∧ oe.cls = .ref C ∧ oe.dict = some d ∧ oe.data = .fields vs ∧ vs[1]? = some .none
  dbig : h.objs.size ≤ d
  dne : d ≠ e
  ns : h'.Ns1 d (fun y => if y = f then some v else none)
section
variable {prog : Program} {w : World} {A : Around} {E : Value → Shared → Prop} {s : Shared}
/-- ValueError.__init__ bound to the exception at x, called -/
theorem call_mw {K : Frag} {nm q : Str} {C N u x t0 : Addr} {bs bm : List Value} {sn : List Str} {sub : List Value} {ab : Bool} {col : Option Bool} {dd : Option Addr} {k0 k1 k2 k3 k5 : Option Value} {rest : List Value} {Q : Value → Shared → Prop}
    (hC : s.heap.get? C = some (excClassObj nm q C N bs bm true sn sub ab col dd k0 k1 k2 k3 k5 "ValueError.__new__")) (hx : s.heap.get? x = some (excO C t0)) (hu : s.heap.get? u = some (kxs_mw "ValueError.__init__" x)) (hz : rest.length ≤ sizeLine)
    (h : ∀ h', (∀ b o, b ≠ x → s.heap.get? b = some o → h'.get? b = some o) → h'.get? x = some (excO C s.heap.objs.size) → Q .none { s with heap := h' }) :
    wpAny (model prog w) A (call (.ref u) rest) Q E s := by
  obtain ⟨hh, g, d, tk, os⟩ := s
  refine wpAny_call (codeAny_of_tree ?_)
  show wpAny _ A.in1 (callAny (.ref u) ⟨rest, []⟩) _ _ _
  simp only [callAny]
  refine wpAny_bind (wpAny_load hu ?_)
  simp only [kxs_mw, show (Value.type "method-wrapper" == Value.type "method" || Value.type "method-wrapper" == Value.type "builtin_function_or_method" || Value.type "method-wrapper" == Value.type "method-wrapper") = true by decide, if_true]
  refine W.KFB.if_so (by decide) ?_
  refine wpAny_bind (check_bound_init F.excBase_ValueError.toExcCallFacts hC hx rfl ?_)
  refine wpAny_bind (wpAny_pure (wpAny_pure ?_))
  refine ⟨plainId_quiet F.excBase_ValueError.init.plain _, codeAny_builtin F.excBase_ValueError.initEntry ?_⟩
  exact exc_init_tree (cls := .ref C) (t0 := t0) (dv := none) (c2 := .none) (c3 := .none) (b4 := .bool false) hx hz fun h' k e' _ => h h' k e'
end
section
variable {prog : Program} {w : World} {A : Around} {E : Value → Shared → Prop} {R : Result → Shared → Prop} {s : Shared} {K : Frag} {mg : Str → Option Value} {f x : Str} {C fI : Addr} {base : Heap}
theorem err_init (T : ErrTxt prog K mg x f C fI) (Md : L2.Mod K mg base) (bk : ∀ b o, base.get? b = some o → s.heap.get? b = some o) {x t0 : Addr} {v : Value} (X : K.In s.heap) (hlim : s.heap.NoLimit) (hx : s.heap.get? x = some (excO C t0)) (hnx : K.lookup x = none) (hroom : A.depth < recursionLimit)
    {ar : Args} (har : ar = ⟨[.ref x, v], []⟩ ∨ ar = ⟨[.ref x], [(f, v)]⟩) (hq : ∀ h' tk dx t1, InitEnd s.heap h' x C dx t1 f v → R (.ok (.ret .none)) { s with heap := h', toks := tk }) :
    codeAny (model prog w) A (.call (.ref fI) ar) R s := by
  obtain ⟨oc, od, doc, pm, an, cda, cc, ct, osl, qual, p1, p2, a1, a2, a3, a4, a5, a6, b1, b2, b3, b4, ccl, cdd, vs, ccs, file, tf, cl, cld, csl, ho, hcd, hcode, hvs, hfile, hcell, hbnd, hbnk, hev⟩ := T.fn
  obtain ⟨nm, q, N, bs, bm, sn, sub, ab, col, dd, k0, k1, k2, k3, k5, hC, hbm⟩ := T.cls
  have hcl : clsIn K C = some { name := nm, bases := bs, mro := .ref C :: bm, ns := N, qualname := q, hasDict := true, slotNames := sn, subclasses := sub, abstract := ab, collection := col, hasDel := false } := by unfold clsIn; rw [hC] <;> rfl
  have fs := T.fself
  have sf : (("self" : Str) == f) = false := by
    cases e : (("self" : Str) == f) with
    | false => rfl
    | true =>
      rw [eq_of_beq e] at fs
      simp at fs
  have kself : (iS f).names.lookup ("self" : Str) = some .local := rfl
  have kf : (iS f).names.lookup f = some .local := by
    show List.lookup f [(PySem.Str.ofString "self", NameKind.local), (f, NameKind.local), (PySem.Str.ofString "__class__", NameKind.free), (PySem.Str.ofString "super", NameKind.globalImplicit)] = _
    have : (f == PySem.Str.ofString "self") = false := fs
    simp [List.lookup, this]
  have mself : (([(("self" : Str), .ref x), (f, v)] : List (Str × Value)).reverse.lookup ("self" : Str)) = some (.ref x) := by
    simp [List.lookup, sf]
  have mf : (([(("self" : Str), .ref x), (f, v)] : List (Str × Value)).reverse.lookup f) = some v := by
    simp [List.lookup]
  refine ks_codeAny_call_defAt (fd := ksFn "__init__" qual (iA f p1 p2) (iB f a1 a2 a3 a4 a5 a6 b1 b2 b3 b4) (iS f) .none .none doc pm an (.ref cda) ct cc) (binds := [(("self" : Str), .ref x), (f, v)]) hroom (X _ _ ho) rfl hlim (codeRec_of X hcd) rfl (BindsTo.of_eq (by rcases har with rfl | rfl <;> first | exact hbnd _ _ | exact hbnk _ _)) ?hcell ?hloc (fun h₁ hns hk₁ => ?_) rfl rfl rfl
  case hcell =>
    intro y hy
    simp only [iS, List.mem_cons, List.not_mem_nil, or_false] at hy
    rcases hy with rfl | rfl | rfl | rfl <;> exact fun z => nomatch z
  case hloc =>
    intro y hy
    simp only [List.mem_cons, List.not_mem_nil, or_false] at hy
    rcases hy with rfl | rfl
    · exact kself
    · exact kf
  have hxL : s.heap.objs.size ≠ x := Nat.ne_of_gt (Heap.lt_size hx)
  have X₁ : K.In h₁ := X.keeps hk₁
  have hx₁ := hk₁ _ _ hx
  have I₁ : InstAt h₁ x (excO C t0) C none := ⟨hx₁, rfl, rfl, trivial⟩
  obtain ⟨mb, hb1, hb2⟩ := Md.blt
  have bk₁ : ∀ b o, base.get? b = some o → h₁.get? b = some o := fun b o e => hk₁ b o (bk b o e)
  obtain ⟨oD, hD1, hD2⟩ : ∃ oD, h₁.get? C = some oD ∧ ∃ cd, oD.data = .cls cd := ⟨_, X₁ _ _ hC, _, rfl⟩
  obtain ⟨cdD, hD2⟩ := hD2
  obtain ⟨pl, hev⟩ := hev (callEnv (ksFn "__init__" qual (iA f p1 p2) (iB f a1 a2 a3 a4 a5 a6 b1 b2 b3 b4) (iS f) .none .none doc pm an (.ref cda) ct cc) s.heap.objs.size fI) rfl
  refine ks_wpAt_execs_cons (ks_wpAt_Expr_any (ks_wpAt_MethodCall (pl := pl) ?_ hev))
  refine ks_wpAt_super_base (fd := ksFn "__init__" qual (iA f p1 p2) (iB f a1 a2 a3 a4 a5 a6 b1 b2 b3 b4) (iS f) .none .none doc pm an (.ref cda) ct cc) T.ks T.kc (by decide) rfl (X₁ _ _ ho) rfl (ar := { arg := "self", annotation := none, pos := p1 }) rfl (cc := cda) rfl (X₁ _ _ hcode) rfl hvs hfile T.htop ?_
  refine ks_loadName_global rfl T.ks (loadGlobal_builtin (Md.glob.keeps bk₁) T.gS (hb1.keeps bk₁) ((hb2 "super" (by decide)).trans (by decide +kernel : bootBuiltins "super" = some (.type "super"))) ⟨rfl, ?_⟩)
  refine wpAny_loadName_free rfl T.kc (c := cc) (v := .ref C) rfl ⟨_, X₁ _ _ hcell, rfl⟩ ?_
  refine wpAny_loadName_local rfl rfl hns mself ?_
  refine ks_wpAny_isType_cls hD1 hD2 ⟨rfl, ?_⟩
  refine ks_wpAny_call_super hD1 hD2 I₁.at_ I₁.cls (fun c e => nomatch e) (looks_mroIn X₁ T.slf) (fun h₂ hso hk₂ => ?_)
  have X₂ : K.In h₂ := X₁.keeps hk₂
  have hx₂ := hk₂ _ _ hx₁
  have I₂ : InstAt h₂ x (excO C t0) C none := ⟨hx₂, rfl, rfl, trivial⟩
  have hI : Looks (model prog w) h₂ (isInstance (.ref x) (.type "ValueError")) true := I₂.type.andThen (looks_subIn X₂ T.veC)
  have hs := T.sup
  unfold ks_superIn at hs
  rw [hcl] at hs
  refine kxs_getMethod kxs_ValueError hso (looks_opaque X₂ T.opq) (l₀ := .ref C :: bm) (fun A Q E s k q => wpAny_bind ((looks_clsIn X₂ hcl) A _ E s k (wpAny_pure q))) rfl X₂ hs hI (ks_ne X₂ I₂ hcl) (by decide) ?_
  have hk₃ : ∀ b o, h₂.get? b = some o → (h₂.push (kxs_mw "ValueError.__init__" x)).get? b = some o := fun b o e => Heap.get?_push_of_some _ e
  have hu : (h₂.push (kxs_mw "ValueError.__init__" x)).get? h₂.objs.size = some (kxs_mw "ValueError.__init__" x) := Heap.get?_push_at rfl rfl
  have hns₃ := (hns.keeps hk₂).keeps hk₃
  refine kxs_callWith (i := "ValueError.__init__") (x := x) rfl (evalArgs_plain (Calls.spliced_cons ?_))
  refine ldC (v := v) (hns₃) mf ?_ rfl kf T.fdb
  refine Calls.spliced_nil ⟨hu, ?_⟩
  refine call_mw (K := K) (hk₃ _ _ (X₂ _ _ hC)) (hk₃ _ _ hx₂) hu (one_size v) (fun h₄ hk₄ hx₄ => ?_)
  have hk14 : ∀ b o, b ≠ x → h₁.get? b = some o → h₄.get? b = some o := fun b o hb e => hk₄ b o hb (hk₃ _ _ (hk₂ _ _ e))
  have X₄ : K.In h₄ := fun a o e => hk14 a o (fun z => by rw [z, hnx] at e; cases e) (X₁ _ _ e)
  have hns₄ : h₄.Ns s.heap.objs.size (fun y => ([("self", .ref x), (f, v)] : List (Str × Value)).reverse.lookup y) := by
    obtain ⟨oL, es, ep, hL, r⟩ := hns
    exact ⟨oL, es, ep, hk14 _ _ hxL hL, r⟩
  show wpAt _ _ _ (execs _ _) _ _ _
  refine wpAt_of_wpAny (wpAny_execs_cons (plainObj_wpAny_Assign_Attribute ?_))
  refine ldC (v := v) hns₄ mf (ldC (v := .ref x) hns₄ mself ?_ rfl rfl (by decide)) rfl kf T.fdb
  refine set_plain X₄ (ox := _) (od := none) ⟨hx₄, rfl, rfl, trivial⟩ T.sa ?_
  refine exc_osa X₄ hx₄ hcl (show refsVE (.ref C :: bm) = true from hbm) rfl T.noN (fun h₅ tk₅ dx k₅ dn dne hx₅ hn₅ => ?_)
  show wpAny _ _ (execs _ _) _ _ _
  have z : s.heap.objs.size ≤ h₄.objs.size := by
    obtain ⟨oL, es, ep, hL, r⟩ := hns₄
    exact Nat.le_of_lt (Heap.lt_size hL)
  exact wpAny_execs_nil (hq h₅ tk₅ dx _ ⟨fun b o hb e => k₅ b o hb (hk14 b o hb (hk₁ b o e)), hx₅, Nat.le_trans z dn, dne, hn₅⟩)
theorem err_made (T : ErrTxt prog K mg x f C fI) (Md : L2.Mod K mg base) (bk : ∀ b o, base.get? b = some o → s.heap.get? b = some o) {v : Value} (X : K.In s.heap) (hlim : s.heap.NoLimit) (hroom : A.depth + 1 < recursionLimit)
    {us : List Value} {kw : List (Str × Value)} (har : (us = [v] ∧ kw = []) ∨ (us = [] ∧ kw = [(f, v)])) (hq : ∀ h' tk e d, OwnMade s.heap h' e C d f v → R (.ok (.ret (.ref e))) { s with heap := h', toks := tk }) :
    codeAny (model prog w) A (.call (.ref C) ⟨us, kw⟩) R s := by
  obtain ⟨nm, q, N, bs, bm, sn, sub, ab, col, dd, k0, k1, k2, k3, k5, hC, hbm⟩ := T.cls
  obtain ⟨hp, g, dr, tk, os⟩ := s
  have k : ∀ b o, hp.get? b = some o → ((hp.push (kdv_tup us)).push (excO C hp.objs.size)).get? b = some o := fun b o e => Heap.get?_push_of_some _ (Heap.get?_push_of_some _ e)
  have hget : ((hp.push (kdv_tup us)).push (excO C hp.objs.size)).get? (hp.objs.size + 1) = some (excO C hp.objs.size) := by heap_get
  have hnx : K.lookup (hp.objs.size + 1) = none := by
    cases e : K.lookup (hp.objs.size + 1) with
    | none => rfl
    | some o =>
      have z : hp.get? (hp.objs.size + 1) = some o := X _ _ e
      exact absurd (Nat.lt_of_succ_lt (Heap.lt_size z)) (Nat.lt_irrefl _)
  have hz : us.length ≤ sizeLine := by
    rcases har with ⟨rfl, _⟩ | ⟨rfl, _⟩
    · exact one_size v
    · exact Nat.zero_le _
  refine EK.call_kw F.excBase_ValueError (fun X => refsVE_contains X bm hbm) (X _ _ hC) (looks_findIn X T.iC) (fun self => bind_fn X self T.tC) hz ?_
  refine err_init (v := v) (s := ⟨(hp.push (kdv_tup us)).push (excO C hp.objs.size), g, dr, tk, os⟩) T Md (fun b o e => k b o (bk b o e)) (X.keeps k) (hlim.keeps k) hget hnx ?_ (by rcases har with ⟨rfl, rfl⟩ | ⟨rfl, rfl⟩ <;> first | exact .inl rfl | exact .inr rfl) fun h' tk' dx t1 ⟨k', hx, dn, dne, hns⟩ => ?_
  · show A.depth + 1 < recursionLimit
    exact hroom
  · have old : ∀ b o, hp.get? b = some o → h'.get? b = some o := fun b o e => k' b o (Nat.ne_of_lt (Nat.lt_succ_of_lt (Heap.lt_size e))) (k b o e)
    have z : hp.objs.size + 1 + 1 ≤ dx := by
      first
        | (simpa only [Heap.size_push] using dn)
        | exact dn
        | (have q := dn; rw [Heap.size_push, Heap.size_push] at q; exact q)
    exact ⟨rfl, hq h' tk' (hp.objs.size + 1) dx ⟨old, Nat.le_succ _, ⟨_, _, hx, rfl, rfl, rfl, rfl⟩, Nat.le_trans (Nat.le_trans (Nat.le_succ _) (Nat.le_succ _)) z, dne, hns⟩⟩
end
end EX
end PySem
namespace L2
open PySem PySem.Spec PyProof.Rows
theorem relO_err {f : Str} {v : V} {v' : Value} (r : RelV v v') (g : Str) : RelO (List.lookup g [(f, v)]) (if g = f then some v' else none) := by
  by_cases hw : g = f
  · subst hw
    rw [if_pos rfl]
    have q : List.lookup g [(g, v)] = some v := by simp [List.lookup]
    rw [q]
    exact r
  · rw [if_neg hw]
    have qw : (g == f) = false := by simpa using hw
    have q2 : List.lookup g [(f, v)] = none := by simp [List.lookup, qw]
    rw [q2]
    trivial
section
variable {X : Cx} {C fI : Addr} {x f : Str}
/-- x(e) -/
def tMkErr (f : Str) (C : Addr) (ta : TA) : St → Hp → XK → Prop := fun σ H Q => ta σ H fun vs H1 => ∃ v, vs = [v] ∧ ∀ d, H1 d = none → Q (.ref C) (some d) (upd H1 d (.xd [(f, v)]))
theorem pmk_err {a : Expr} {ta : TA} {p pos : Pos} {k : Nat} (T : PySem.EX.ErrTxt X.prog X.K X.mg x f C fI) (hr : Room k X.A) (ha : PA X [a] ta) (hg : Gl X x) (hdb : (x == ("__debug__" : Str)) = false)
    (he : starEach (a :: []) X.env = (false, eval a X.env) :: starEach [] X.env := by rfl) (hpl : (backTo pos (starEach [] X.env)).any (·.1) = false := by rfl) :
    PMk X (.Call (.Name x p) [a] [] pos) (tMkErr f C ta) := by
  intro pins s σ H Q I h
  refine wpAny_Call_Name_kw (ld_glob I hg T.gC ?_ hdb)
  refine PySem.W.callWith_K (h₀ := X.base) I.ok.mod.kin T.kC (thn (ha.run pos pins s σ H _ I h) fun us s1 hh => ?_) he hpl
  obtain ⟨vs, H1, I1, r1, v, ev, q1⟩ := hh
  subst ev
  refine ⟨I1.kIn, ?_⟩
  cases r1 with
  | cons rv rn =>
    rename_i v' us'
    cases rn
    show wpAny _ _ (call (.ref C) [v']) _ _ _
    have hlim := I1.nolimit
    have bk1 := I1.bk
    obtain ⟨hp, g, dr, tk, os⟩ := s1
    refine wpAny_call (PySem.EX.err_made T I1.ok.mod bk1 I1.kIn hlim (by have := hr.dp; omega) (.inl ⟨rfl, rfl⟩) fun h' tk' e d M => ?_)
    show MkP X pins σ Q (.ref e) ⟨h', g, dr, tk', os⟩
    obtain ⟨oe, fv, hoe, hc, hd, hdat, h1⟩ := M.obj
    have hns := M.ns
    obtain ⟨G', g1, g2⟩ := restrict h' fun b => decide (b ≠ e)
    have gk : ∀ b, b ≠ e → G'.get? b = h'.get? b := fun b hb => g1 b (decide_eq_true hb)
    have ge : G'.get? e = none := g2 e (by simp)
    have old : ∀ b o, hp.get? b = some o → G'.get? b = some o := fun b o q => (gk b (Nat.ne_of_lt (Nat.lt_of_lt_of_le (Heap.lt_size q) M.new))).trans (M.keep b o q)
    have ob : ObjOk X.prog X.w (upd H1 d (.xd [(f, v)])) G' d (.xd [(f, v)]) :=
      ⟨_, hns.at (fun o q => (gk d M.dne).trans q), fun f => relO_err rv f⟩
    have J : Inv X pins σ (upd H1 d (.xd [(f, v)])) ⟨G', g, dr, tk', os⟩ := I1.laid (t' := tk') old M.dbig ob
    refine ⟨e, oe, fv, ⟨G', g, dr, tk', os⟩, _, .ref C, some d, rfl, J, fun b o q => ?_, ge, hoe, ⟨hc, hd⟩, hdat, h1, ?_, rfl, I1.bare, raises_own T.exC T.tyC, q1 d (I1.hok.fresh M.dbig)⟩
    · by_cases hb : b = e
      · have q' : G'.get? b = some o := q
        rw [hb, ge] at q'; cases q'
      · exact (gk b hb).symm.trans q
    · rw [upd_ne (Ne.symm M.dne)]
      exact I1.hok.fresh M.new
/-- raise x(e) -/
def tRaiseErr (f : Str) (C : Addr) (W : WX) (ta : TA) : TS := fun _ σ H => tMkErr f C ta σ H fun cls d H' => W cls d σ H'
theorem ps_raiseErr {a : Expr} {ta : TA} {W : WX} {p pos pos2 : Pos} {k : Nat} (hc : X.calm = true) (T : PySem.EX.ErrTxt X.prog X.K X.mg x f C fI) (hr : Room k X.A) (tk : Takes X W) (ha : PA X [a] ta) (hg : Gl X x) (hdb : (x == ("__debug__" : Str)) = false)
    (he : starEach (a :: []) X.env = (false, eval a X.env) :: starEach [] X.env := by rfl) (hpl : (backTo pos (starEach [] X.env)).any (·.1) = false := by rfl) :
    PS X (.Raise (some (.Call (.Name x p) [a] [] pos)) none pos2) (tRaiseErr f C W ta) := ps_raise hc tk (pmk_err T hr ha hg hdb he hpl)
end
end L2
namespace DL
open PySem PySem.Spec PyProof.Rows L2
section
variable {X : Cx} {M : LK} {W : WX} {C fI : Addr} {x f : Str}
theorem notTbl_xd {fs : List (Str × V)} : notTbl (.xd fs) := fun ps z => by cases z
/-- raise x(e), x an own error of one field f -/
def dRaise (C : Addr) (f : Str) (fa : DTA) : DTS := fun k δ n => fa δ n (fun xs n1 => xs.length = 1 ∧ k.ex δ C [f] xs n1) k.ex
theorem ds_raise {st : Stmt} {fa : DTA} (h : PS X st (tRaiseErr f C W (liftA M W fa))) : PS X st (liftS M W (dRaise C f fa)) :=
  PSw h fun D₀ σ H ⟨pn, G, n, δ, k, R, hf, s⟩ => by
    refine ⟨pn, G, n, δ, _, k.ex, R, hf, fun G1 vs ds n1 H1 A1 R1 i1 h1 => ?_, s.xe⟩
    obtain ⟨hl, h1⟩ := h1
    match ds, hl with
    | [d], _ =>
      obtain ⟨v, rfl, iv⟩ := i1.one
      refine ⟨v, rfl, fun a ha => ?_⟩
      obtain ⟨R2, A2⟩ := R1.lay (o := .xd [(f, v)]) ha notTbl_xd
      exact s.ex _ σ δ C (some a) [f] [d] n1 _ (R.tr A1 A2) R2 ⟨[(f, v)], upd_same, rfl, by simp only [List.map, IsL]; exact ⟨Is.up A2.ge d v iv, trivial⟩⟩ h1
end
end DL

set_option Elab.async false
set_option linter.all false
set_option maxRecDepth 100000
set_option maxHeartbeats 2000000
set_option autoImplicit false
/-! try: body / except X as e: suite / except Y as e: suite .. -/
namespace L2
open PySem PySem.Spec PyProof.Rows
abbrev HdL := List (Value × Nat × (Addr → Value → Option Addr → TS))
def offE (i : Nat) (D : Ends) : Ends := { nx := fun σ' H' => D.nx (σ'.set i none) H', rt := D.rt, bk := fun σ' H' => D.bk (σ'.set i none) H', ct := fun σ' H' => D.ct (σ'.set i none) H' }
/-- what the clauses wish of an exception of the body, one after the other -/
def wManyAs (K : PySem.W.Frag) (Wout : WX) (D : Ends) : HdL → WX
  | [] => Wout
  | (c, i, ts) :: r => fun cls d σ H => ∃ b, PySem.W.exmOne K cls c = some b ∧ (b = true → ∀ a, H a = none → ts a cls d (offE i D) (σ.set i (some (.ref a))) H) ∧ (b = false → wManyAs K Wout D r cls d σ H)
inductive HdsAs (X : Cx) : List ExceptHandler → HdL → Prop
  | nil : HdsAs X [] []
  | cons {x n : Str} {i : Nat} {c : Value} {ts : Addr → Value → Option Addr → TS} {b₀ : Stmt} {suite : List Stmt} {np pos' : Pos} {hds : List ExceptHandler} {l : HdL} (hi : X.N[i]? = some n) (hln : X.env.kindOf n = some .local) (hc : Names X x c)
      (hsu : ∀ (a : Addr) (oe : Obj) (cls : Value) (d : Option Addr) (pn : List (Addr × Obj)), Zc cls d oe → (∃ vs, oe.data = .fields vs) → PSs (X.suite a ((a, oe) :: pn)) (b₀ :: suite) (ts a cls d)) (r : HdsAs X hds l) :
      HdsAs X (.ExceptHandler (some (.Name x np)) (some n) (b₀ :: suite) pos' :: hds) ((c, i, ts) :: l)
section
variable {X : Cx} {body : List Stmt} {h₀ : ExceptHandler} {hds : List ExceptHandler} {l : HdL} {pos : Pos} {tb : WX → TS} {Wout : WX}
theorem ps_try_manyAs (hs : X.stack = X.env :: X.outer) (hf : X.env.frame = some X.env.locals) (hN : X.N.Nodup) (tk : Takes X Wout)
    (hb : ∀ (W : WX) (pn : List (Addr × Obj)) (xe : Value → Shared → Prop), Takes (X.tr pn xe) W → PassesOwn (model X.prog X.w) X.A X.env xe → PSs (X.tr pn xe) body (tb W))
    (hh : HdsAs X (h₀ :: hds) l) : PS X (.Try body (h₀ :: hds) [] [] pos) (fun D σ H => tb (wManyAs X.K Wout D l) D σ H) := by
  refine ⟨fun pins s σ H D I h => ?_⟩
  have ok := I.ok
  have hfr : X.A.frames = some (X.env :: X.outer) := by rw [ok.frames, hs]
  refine wpAny_Try_except ?_
  refine wpAny_mono ((hb (wManyAs X.K Wout D l) (X.pn ++ pins) (fun e s₁ => wpAny (model X.prog X.w) X.A (noteFrame e X.env) (fun _ s₂ => wpAny (model X.prog X.w) X.A (setFlight e none) (fun _ s₃ =>
    wpAny (model X.prog X.w) X.A (handleBy e X.env (h₀ :: hds)) (SP X pins D) X.xe s₃) X.xe s₂) X.xe s₁) (fun u s' xx => ?_) PassesOwn.looking).run [] s σ H D (I.toTry _) h) (fun f s1 hsp => ?_) (fun e s1 he => he)
  · -- the catch
    obtain ⟨a, B, sI, pins', σ', H', cls, d, rfl, J', nb, up, sky, na, os, ag, w⟩ := xx
    have J : Inv X pins σ' H' sI := J'.ofTry ok
    have sky' : Sky B (X.env :: X.outer) a (Zc cls d) X.env.locals s'.heap := by rw [← hs]; exact sky
    show wpAny (model X.prog X.w) X.A (noteFrame (.ref a) X.env) _ _ _
    refine Sky.land Zc.steady hfr hf sky' fun h3 fl3 up3 => ?_
    have J3 : Inv X pins σ' H' { s' with heap := h3 } := J.landed nb fl3.1 (up.trans up3) os ag
    obtain ⟨oe3, vs3, he3, hz3, hd3⟩ := fl3.there
    have notFr : ∀ {h : Heap} {o : Obj} {vs : Array Value}, h.FunFrames B (X.env :: X.outer) → h.get? a = some o → o.data = .fields vs → a ∉ frs (X.env :: X.outer) := fun {h o vs} ff e dd hm => by
      obtain ⟨_, o', e', hnf⟩ := ff.mem hm
      rw [e] at e'; cases e'
      exact hnf _ dd
    have nfr := notFr fl3.2.2.1 he3 hd3
    have nL : a ≠ X.env.locals := fun z => nfr (List.mem_filterMap.mpr ⟨X.env, List.mem_cons_self, by rw [hf, z]⟩)
    have nF : a ∉ X.fs := fun hm => by
      obtain ⟨e, he, q⟩ := List.mem_filterMap.mp hm
      exact nfr (List.mem_filterMap.mpr ⟨e, List.mem_cons_of_mem _ he, q⟩)
    have S3 := J3.suite he3 hd3 na nL nF
    have go : ∀ {hds' : List ExceptHandler} {l' : HdL}, HdsAs X hds' l' → wManyAs X.K Wout D l' cls d σ' H' →
        wpAny (model X.prog X.w) X.A (handleBy (.ref a) X.env hds') (SP X pins D) X.xe { s' with heap := h3 } := by
      intro hds' l' hk
      induction hk with
      | nil =>
        intro w
        refine wpAny_handleBy_nil ?_
        obtain ⟨k1, k2, k3, oe, vs, T, oT, ts', he, hz, hd, h1, hr⟩ := id fl3
        unfold PySem.passOn
        refine wpAny_bind (wpAny_field he hd h1 ?_)
        rw [if_neg (show ¬ ((Value.ref T == Value.none) = true) from by simp)]
        have fin : wpAny (model X.prog X.w) X.A (setFlight (.ref a) X.env.frame) (fun _ s4 => wpAny (model X.prog X.w) X.A (throw (.ref a) : Sem Flow) (SP X pins D) X.xe s4) X.xe { s' with heap := h3 } := by
          rw [hf]
          refine HandSPX.setFlight_upZ fl3 fun h4 hh4 up4 => wpAny_throw (tk _ _ ?_)
          exact ⟨a, B, sI, pins, σ', H', cls, d, rfl, J, nb, (up.trans up3).trans up4, .inr (.inr (by rw [hs]; exact hh4)), na, os, ag, w⟩
        first
          | exact wpAny_bind (wpAny_pure (wpAny_bind fin))
          | exact wpAny_bind fin
      | @cons x n i c ts b₀ suite np pos' hds2 l2 hi hln hc hsu r ih =>
        intro w
        obtain ⟨b, hb1, hyes, hno⟩ := w
        have hloc : Loc X.env.scope n := .inl hln
        refine wpAny_handleBy_cons (codeAny_handlers_test ?_) (by intro q; cases q)
        have LT : PySem.W.Looks (model X.prog X.w) h3 (typeOf (.ref a)) cls := fun A Q E s k q => wpAny_typeOf_ref (k _ _ he3) (by rw [hz3.1]; exact q)
        have LM := PySem.W.exm_one (M := model X.prog X.w) (J3.kIn) LT hb1
        have test : ∀ {Q : Value → Shared → Prop} {E : Value → Shared → Prop}, Q c { s' with heap := h3 } → wpAny (model X.prog X.w) (X.A.mark (some (.ref a))) (eval (.Name x np) X.env) Q E { s' with heap := h3 } := fun {Q E} q => by
          obtain ⟨hg, hdbg, hm | ⟨hm, hv, hnn⟩⟩ := hc
          · exact ld_glob (X := X.suite a ((a, oe3) :: (X.pn ++ pins))) S3 hg hm q hdbg
          · exact ld_blt (X := X.suite a ((a, oe3) :: (X.pn ++ pins))) S3 hg hm hv q hnn hdbg
        refine test (LM.here ?_)
        cases b with
        | true =>
          refine codeAny_handlers_suite_as ?_
          refine HandSPX.lands_againZ fl3 fun h4 fl4 up4 => ?_
          have J4 : Inv X pins σ' H' { s' with heap := h4 } := J.landed nb fl4.1 ((up.trans up3).trans up4) os ag
          obtain ⟨oe4, vs4, he4, hz4, hd4⟩ := fl4.there
          have S4 := J4.suite he4 hd4 na nL nF
          refine store_ok (X := X.suite a ((a, oe4) :: (X.pn ++ pins))) (v := .ref a) S4 hN hi hloc rfl (fun s5 S5 => ?_) (.inr hln)
          refine wpAny_mono ((hsu a oe4 cls d (X.pn ++ pins) hz4 ⟨_, hd4⟩).run [] s5 _ H' _ S5 (hyes rfl a na)) (fun f s6 hsp => ?_) (fun _ _ z => False.elim z)
          have end_ : ∀ {σ6 : St} {H6 : Hp} {Q : Shared → Prop}, Inv (X.suite a ((a, oe4) :: (X.pn ++ pins))) [] σ6 H6 s6 → (∀ s7, Inv X pins (σ6.set i none) H6 s7 → Q s7) →
              wpAny (model X.prog X.w) X.A (do bindName X.env n .none; unbindBehindTheSuite X.env n pos') (fun _ s7 => Q s7) X.xe s6 := fun {σ6 H6 Q} S6 hq => gone_ok (S6.unsuite ok) hN hi hln hq
          cases f with
          | next =>
            obtain ⟨σ6, H6, S6, q6⟩ := hsp
            exact end_ S6 fun s7 J7 => ⟨_, _, J7, q6⟩
          | brk =>
            obtain ⟨σ6, H6, S6, q6⟩ := hsp
            exact end_ S6 fun s7 J7 => ⟨_, _, J7, q6⟩
          | cont =>
            obtain ⟨σ6, H6, S6, q6⟩ := hsp
            exact end_ S6 fun s7 J7 => ⟨_, _, J7, q6⟩
          | ret u =>
            obtain ⟨v6, σ6, H6, S6, r6, q6⟩ := hsp
            exact end_ S6 fun s7 J7 => ⟨_, _, _, J7, r6, q6⟩
        | false =>
          show wpAny _ X.A (handleBy (.ref a) X.env hds2) _ _ _
          exact ih (hno rfl)
    exact go hh w
  · cases f with
    | next =>
      obtain ⟨σ', H', J', q⟩ := hsp
      exact wpAny_execs_nil ⟨σ', H', J'.ofTry ok, q⟩
    | brk =>
      obtain ⟨σ', H', J', q⟩ := hsp
      exact ⟨σ', H', J'.ofTry ok, q⟩
    | cont =>
      obtain ⟨σ', H', J', q⟩ := hsp
      exact ⟨σ', H', J'.ofTry ok, q⟩
    | ret u =>
      obtain ⟨v, σ', H', J', r, q⟩ := hsp
      exact ⟨v, σ', H', J'.ofTry ok, r, q⟩
end
end L2
namespace DL
open PySem PySem.Spec PyProof.Rows L2
section
variable {X : Cx} {M : LK} {W : WX}
abbrev DHs := List (Value × Nat × (Addr → Value → Option Addr → DTS))
def hdOff (i : Nat) (k : DEnds) : DEnds := { nx := fun δ n => k.nx (δ.set i none) n, rt := k.rt, bk := fun δ n => k.bk (δ.set i none) n, ct := fun δ n => k.ct (δ.set i none) n }
def dHds (K : PySem.W.Frag) (k : DEnds) : DHs → DX
  | [] => k.ex
  | (c, i, f) :: r => fun δ C ns ds n => ∃ b, PySem.W.exmOne K (.ref C) c = some b ∧ (b = true → ∀ a (dd : Option Addr), f a (.ref C) dd (hdOff i k) (δ.set i (some (.exc a C dd ns ds))) n) ∧ (b = false → dHds K k r δ C ns ds n)
/-- try / except .. as ..; W0: a suite raises nothing -/
def dTry (K : PySem.W.Frag) (tb : DTS) (l : DHs) : DTS := fun k δ n => tb { k with ex := dHds K k l } δ n
theorem Rep.put' {pn : Addr} {G H : Hp} {n : NS} {σ : L2.St} {δ : DEnv} {i : Nat} (R : Rep M pn G n σ δ H) : Rep M pn G n (σ.set i none) (δ.set i none) H := R.wipe (vs := [i])
theorem hds_ok {pn : Addr} {G H : Hp} {D₀ : Ends} {k : DEnds} (s : SEnd M W pn G H D₀ k) {σ0 : L2.St} {δ0 : DEnv} {n0 : NS} (R0 : Rep M pn G n0 σ0 δ0 H) : ∀ (l : DHs) (G' : Hp) (σ' : L2.St) (δ' : DEnv) (C : Addr) (a : Option Addr) (ns : List Str) (ds : List D) (n' : NS) (H' : Hp), Adv pn G H G' H' → Rep M pn G' n' σ' δ' H' → XIs M G' a ns ds → dHds M.L.K k l δ' C ns ds n' →
    wManyAs M.L.K W D₀ (l.map fun p => (p.1, p.2.1, fun a cls d => liftS M W0 (p.2.2 a cls d))) (.ref C) a σ' H'
  | [], G', σ', δ', C, a, ns, ds, n', H', A', R', hx, h => s.ex G' σ' δ' C a ns ds n' H' A' R' hx h
  | (c, i, f) :: r, G', σ', δ', C, a, ns, ds, n', H', A', R', hx, h => by
    obtain ⟨b, h1, h2, h3⟩ := h
    refine ⟨b, h1, fun hb a0 ha0 => ?_, fun hb => hds_ok s R0 r G' σ' δ' C a ns ds n' H' A' R' hx (h3 hb)⟩
    have s' := s.on R0 A'
    have hi : Is M G' (.ref a0) (.exc a0 C a ns ds) := by
      simp only [Is]
      exact ⟨trivial, hx⟩
    refine ⟨pn, G', n', _, hdOff i k, R'.put hi, h2 hb a0 a, ?_⟩
    exact ⟨fun G2 σ2 δ2 n2 H2 A2 R2 h => s'.nx G2 _ _ n2 H2 A2 R2.put' h, s'.rt, fun G2 σ2 δ2 n2 H2 A2 R2 h => s'.bk G2 _ _ n2 H2 A2 R2.put' h, fun G2 σ2 δ2 n2 H2 A2 R2 h => s'.ct G2 _ _ n2 H2 A2 R2.put' h, fun G2 σ2 δ2 C2 a2 ns2 ds2 n2 H2 A2 R2 _ h => h.elim⟩
theorem ds_try {body : List Stmt} {h₀ : ExceptHandler} {hds : List ExceptHandler} {l : DHs} {pos : Pos} {tb : DTS} (hK : X.K = M.L.K) (hs : X.stack = X.env :: X.outer) (hf : X.env.frame = some X.env.locals) (hN : X.N.Nodup) (tk : Takes X W)
    (hb : ∀ (W' : WX) (pn : List (Addr × Obj)) (xe : Value → Shared → Prop), Takes (X.tr pn xe) W' → PassesOwn (model X.prog X.w) X.A X.env xe → PSs (X.tr pn xe) body (liftS M W' tb))
    (hh : HdsAs X (h₀ :: hds) (l.map fun p => (p.1, p.2.1, fun a cls d => liftS M W0 (p.2.2 a cls d)))) : PS X (.Try body (h₀ :: hds) [] [] pos) (liftS M W (dTry M.L.K tb l)) :=
  PSw (ps_try_manyAs (tb := fun W' => liftS M W' tb) hs hf hN tk hb hh) fun D₀ σ H ⟨pn, G, n, δ, k, R, hf, s⟩ => by
    rw [hK]
    exact ⟨pn, G, n, δ, _, R, hf, ⟨s.nx, s.rt, s.bk, s.ct, fun G' σ' δ' C a ns ds n' H' A' R' hx h => hds_ok s R l G' σ' δ' C a ns ds n' H' A' R' hx h⟩⟩
/-- e.f, e the exception that the suite holds -/
def dXf (a : Addr) (cls : Value) (d : Option Addr) (C : Addr) (f : Str) (te : DTE) : DTE := fun δ n q e => te δ n (fun x n1 => match x with
  | .exc a' C' dd ns xs => (a' = a ∧ C' = C ∧ cls = .ref C ∧ d = dd) ∧ ∃ v, (ns.zip xs).lookup f = some v ∧ q v n1
  | _ => False) e
theorem xd_look {G : Hp} {f : Str} : ∀ {fs : List (Str × V)} {xs : List D} {d : D}, IsL M G (fs.map (·.2)) xs → ((fs.map (·.1)).zip xs).lookup f = some d → ∃ v, fs.lookup f = some v ∧ Is M G v d
  | [], _, d, _, h => by simp at h
  | (g, v) :: fs, [], d, _, h => by simp at h
  | (g, v) :: fs, x :: xs, d, hi, h => by
    simp only [List.map_cons, IsL] at hi
    simp only [List.map_cons, List.zip_cons_cons, List.lookup] at h ⊢
    cases e : f == g with
    | true =>
      rw [e] at h
      cases h
      exact ⟨v, rfl, hi.1⟩
    | false =>
      rw [e] at h
      exact xd_look hi.2 h
theorem dp_xf {e : Expr} {a C : Addr} {cls : Value} {d : Option Addr} {f : Str} {te : DTE} (h : PE X e (tXf a cls d C f (liftE M W te))) : PE X e (liftE M W (dXf a cls d C f te)) :=
  PEw h fun σ H Q ⟨pn, G, n, δ, q, e, R, hf, hQ, hX⟩ => by
    refine ⟨pn, G, n, δ, _, e, R, hf, fun G1 v x n1 H1 A1 R1 i1 h1 => ?_, hX⟩
    cases x with
    | exc a' C' dd ns xs =>
      obtain ⟨⟨rfl, rfl, hc, hd⟩, w, hl, h1⟩ := h1
      simp only [Is] at i1
      obtain ⟨rfl, fs, g1, rfl, g3⟩ := i1
      obtain ⟨u, hu, iu⟩ := xd_look g3 hl
      cases dd with
      | none =>
        cases (show fs = [] from g1)
        cases hu
      | some dd => exact ⟨rfl, hc, dd, fs, u, hd, R1.ex _ _ g1, hu, hQ G1 u w n1 H1 A1 R1 iu h1⟩
    | _ => exact h1.elim
end
end DL

set_option Elab.async false
set_option linter.all false
set_option maxRecDepth 100000
set_option maxHeartbeats 2000000
set_option autoImplicit false
/-! isinstance of a caught error that bears an own dict -/
namespace L2
open PySem PySem.Spec PyProof.Rows
def rIsED (K : PySem.W.Frag) (a : Addr) (cls : Value) (d : Option Addr) : List V → Hp → VK → Prop := fun xs H Q => ∃ (D : Addr) (c : V) (cv : Value) (b : Bool), xs = [.ref a, c] ∧ cls = .ref D ∧ (d = none ∨ ∃ dd fs, d = some dd ∧ H dd = some (.xd fs)) ∧ ExcC K D ∧ (∀ u, RelV c u → u = cv) ∧ PySem.W.kitOne K (.ref D) cv = some b ∧ Q (.bl b) H
theorem call_isED {X : Cx} {a : Addr} {oe : Obj} {cls : Value} {d : Option Addr} {pn : List (Addr × Obj)} (hz : Zc cls d oe) (hf : ∃ vs, oe.data = .fields vs) : CallR (X.suite a ((a, oe) :: pn)) (.builtin "isinstance") (rIsED X.K a cls d) := by
  intro pins s σ H xs us Q I r h
  obtain ⟨D, c, cv, b, rfl, rfl, hx, C, hcv, e, q⟩ := h
  cases r with
  | cons rx rr =>
    cases rr with
    | cons rt rr =>
      cases rr
      cases rx
      have ec := hcv _ rt
      subst ec
      obtain ⟨hget, _⟩ := I.pin (a, oe) (List.mem_append.mpr (.inl List.mem_cons_self))
      obtain ⟨vs, hv⟩ := hf
      rcases hx with rfl | ⟨dd, fs, rfl, hx⟩
      · have J : PySem.W.InstAt s.heap a oe D none := by
          obtain ⟨oc, od, oda, osl⟩ := oe
          obtain ⟨h1, h2⟩ := hz
          dsimp only at h1 h2 hv
          subst h1 h2 hv
          exact ⟨hget, rfl, rfl, trivial⟩
        exact PySem.W.kia_one (PySem.W.handS_kitx_exc C.hg C.hk C.hs C.hd C.ha C.hn C.ht C.hm) I.kIn J e (fun z => nomatch z) fun tk => ⟨.bl b, H, I.kept (t' := tk) fun _ _ z => z, rfl, q⟩
      obtain ⟨mA, hns, hr⟩ := (show ObjOk X.prog X.w H s.heap dd (.xd fs) from I.hok dd _ hx)
      obtain ⟨od, ho, hl⟩ := lookIn_ns hns
      have J : PySem.W.InstAt s.heap a oe D (some od) := by
        obtain ⟨oc, od', oda, osl⟩ := oe
        obtain ⟨h1, h2⟩ := hz
        dsimp only at h1 h2 hv
        subst h1 h2 hv
        exact ⟨hget, rfl, rfl, ho⟩
      obtain ⟨cd, hc, _⟩ := PySem.W.any_some C.hd
      exact PySem.W.kia_one (PySem.W.kitx_exc (by rw [hc]; rfl) C.hg C.hk C.hs C.ha C.hn C.ht C.hm) I.kIn J e (fun z => nomatch z) fun tk => ⟨.bl b, H, I.kept (t' := tk) fun _ _ z => z, rfl, q⟩
end L2
namespace DL
open PySem PySem.Spec PyProof.Rows L2
section
variable {X : Cx} {M : LK} {W : WX}
def gIsE (K : PySem.W.Frag) (a : Addr) (cls : Value) (d : Option Addr) : GC := fun xs n q => match xs with
  | [.exc a' C dd ns ys, c] => (a' = a ∧ cls = .ref C ∧ d = dd ∧ ExcC K C) ∧ ∃ cv b, clsD c = some cv ∧ PySem.W.kitOne K (.ref C) cv = some b ∧ q (.bl b) n
  | _ => False
theorem drc_isE {a : Addr} {cls : Value} {d : Option Addr} : DRC M (rIsED M.L.K a cls d) (gIsE M.L.K a cls d) := by
  intro pn G n σ δ H vs xs q Q R iv h k
  unfold gIsE at h
  split at h
  · rename_i a' C dd ns ys c
    obtain ⟨v, v', rfl, iw, iw'⟩ := iv.two
    obtain ⟨⟨rfl, rfl, rfl, hC⟩, cv, b, hc, hb, h⟩ := h
    simp only [Is] at iw
    obtain ⟨rfl, fs, h1, _⟩ := iw
    have hx : d = none ∨ ∃ dd fs, d = some dd ∧ H dd = some (.xd fs) := by
      cases d with
      | none => exact .inl rfl
      | some dd => exact .inr ⟨dd, fs, rfl, R.ex _ _ h1⟩
    exact ⟨C, v', cv, b, rfl, rfl, hx, hC, fun u ru => (clsD_ok hc iw').eq ru, hb, k G _ _ n H Adv.refl R (by simp only [Is]) h⟩
  · exact h.elim
end
end DL

set_option Elab.async false
set_option linter.all false
set_option maxRecDepth 100000
set_option maxHeartbeats 2000000
set_option autoImplicit false
/-! told(lambda: e): what the lambda raises is wished for at the slots of the def that calls it. -/
namespace LamX
open PySem PySem.Spec PyProof.Rows L2
section
variable {X : Cx} {pins : List (Addr × Obj)} {σ : L2.St} {H : Hp} {s : Shared}
theorem pe_actS {CXg : CXT} {Eg : XK} {Ng : List Str} {qg : Str} {sg : Scope} {g f c' : Addr} {cdg pm ctv : Value} {params : Arguments} {body : Expr} {scope : Scope} {k i : Nat} {a : Str} {pn : List (Addr × Obj)} {xe : Value → Shared → Prop} {W : WX} {t : XK → TE} {p1 p2 : Pos}
    (I : Inv X pins σ H s) (L : LamS X.env.scope scope) (hf : s.heap.get? f = some (PySem.W.kla_obj "<lambda>" (X.env.qual ++ "<lambda>") params body scope (cloFrom X.env.cells scope.names []) pm c' ctv)) (hfn : H f = none) (hfr : f ∉ frs X.stack)
    (hbind : bindArgs (PySem.W.kla_fn "<lambda>" (X.env.qual ++ "<lambda>") params body scope (cloFrom X.env.cells scope.names []) pm (.ref c') ctv) ⟨[], []⟩ = pure [])
    (tk : Takes ((cxOf CXg X.prog X.w X.K X.mg X.base Ng qg sg g cdg X.A X.stack s H Eg).tr pn xe) W) (hr : Room (k + 1) (X.A.deeper (envOfC qg sg s.heap.objs.size g cdg)))
    (hbody : ∀ (A : Around) (outer : List Env) (s : Shared) (H : Hp) (E : XK), Room k (A.deeper (lamEnv X scope s.heap.objs.size f c')) → PE (lamCx X A outer s H E scope f c') body (t E))
    (hN : Ng[i]? = some a) (hv : Vis sg a) (hd : (a == ("__debug__" : Str)) = false := by decide) (hcd : (a == ("__classdict__" : Str)) = false := by decide) :
    PE ((cxOf CXg X.prog X.w X.K X.mg X.base Ng qg sg g cdg X.A X.stack s H Eg).tr pn xe) (.Call (.Name a p1) [] [] p2)
      (fun σZ HZ Q => σZ[i]? = some (some (.ref f)) ∧ HZ c' = some (CodeO c' (X.env.qual ++ "<lambda>")) ∧ t (WE W σZ) σ HZ Q) := by
  refine ⟨fun pinsZ sZ σZ HZ Q IZ h => ?_⟩
  obtain ⟨hs, hc, ht⟩ := h
  refine wpAny_Call_Name_kw (thn ((pe_var (pos := p1) (i := i) hN hv hd hcd).run pinsZ sZ σZ HZ (fun v H1 => v = .ref f ∧ H1 = HZ) IZ ⟨.ref f, hs, rfl, rfl⟩) fun u s1 ⟨v, H1, I1, r1, q1⟩ => ?_)
  obtain ⟨ev, eH⟩ := q1
  subst ev
  rw [eH] at I1
  obtain rfl : u = Value.ref f := r1
  have of1 : s1.heap.get? f = some (PySem.W.kla_obj "<lambda>" (X.env.qual ++ "<lambda>") params body scope (cloFrom X.env.cells scope.names []) pm c' ctv) := I1.base.keep f _ hf hfn hfr (fun z => nomatch (show f ∈ ([] : List Addr) from z))
  refine PySem.W.callWith_F0 ⟨_, _, _, _, of1⟩ ?_
  have un : Un (frs X.stack) [] H HZ s.heap s1.heap := I1.base
  obtain ⟨⟨oc, vs, tk', hoc, hdc, hvc⟩, _, _⟩ := I1.hok c' _ hc
  have rc : codeAny (model X.prog X.w) (X.A.deeper (envOfC qg sg s.heap.objs.size g cdg)) (.call (.ref f) ⟨[], []⟩) (CR (L2.CX X.prog X.w) (envOfC qg sg s.heap.objs.size g cdg :: X.stack) X.prog X.w HZ s1 Q (WE W σZ)) s1 := by
    refine PySem.W.kla_callFunE hr.depth of1 rfl L.co L.gen rfl ⟨c', oc, vs, tk', rfl, hoc, hdc, hvc⟩ ?_
    rw [hbind]
    refine wpAny_pure (wpAny_newFunctionEnv (fun y hy => (L.own y hy).2) (fun y hy => absurd hy (by simp)) (fun h₁ hns hsb => ⟨I1.nolimit.fresh _ hsb, ?_⟩) L.kind)
    show codeAny _ _ (.expr body (lamEnv X scope s1.heap.objs.size f c')) _ _
    have kp : ∀ b o, s1.heap.get? b = some o → h₁.get? b = some o := fun b o e => hsb.extBut b o (Nat.ne_of_lt (Heap.lt_size e)) (Heap.get?_push_of_some _ e)
    have J : Inv (lamCx X (X.A.deeper (envOfC qg sg s.heap.objs.size g cdg)) (envOfC qg sg s.heap.objs.size g cdg :: X.stack) s1 HZ (WE W σZ) scope f c') [] σ HZ { s1 with heap := h₁, toks := s1.toks + ([] : List (Str × Value)).length } :=
      lam_start2 I L I1.env0 hr.hd un hns kp
    refine PySem.W.kla_codeExpr (wpAny_mono ((hbody _ _ s1 HZ (WE W σZ) (hr.deeper _)).run [] _ _ HZ Q J ht) (fun v s' hq => ?_) fun e s' hq => hq)
    obtain ⟨w', H', J', rv, q⟩ := hq
    exact ⟨w', H', J'.os, J'.bare, J'.base, J'.hok, rv, q⟩
  have hx := passAt tk σZ
  refine wpAny_call (codeAny_mono rc fun r s' hq => ?_)
  cases r with
  | error e => exact hx pinsZ HZ s1 e s' I1 hq
  | ok fl =>
    cases fl with
    | ret u => exact I1.after hq
    | next => exact False.elim hq
    | brk => exact False.elim hq
    | cont => exact False.elim hq
end
def GivesS (X : Cx) (Ng : List Str) (x : Str) (sg : Scope) (g : Addr) (cdg : Value) (bg : List Stmt) (a : Str) (q : Str) (TT : (XK → Hp → VK → Prop) → Hp → VK → Prop) : Prop :=
  ∀ (f c' : Addr) (s : Shared) (H : Hp) (Q : VK) (tl : XK → Hp → VK → Prop),
    (∀ (W : WX) (pn : List (Addr × Obj)) (xe : Value → Shared → Prop) (p1 p2 : Pos), Takes ((cxOf C8.CX0 X.prog X.w X.K X.mg X.base Ng x sg g cdg X.A X.stack s H C8.E0).tr pn xe) W →
      PE ((cxOf C8.CX0 X.prog X.w X.K X.mg X.base Ng x sg g cdg X.A X.stack s H C8.E0).tr pn xe) (.Call (.Name a p1) [] [] p2) (fun σZ HZ Q => σZ[0]? = some (some (.ref f)) ∧ HZ c' = some (CodeO c' q) ∧ tl (WE W σZ) HZ Q)) →
    H c' = some (CodeO c' q) → TT tl H Q →
    ∃ t, PSs (cxOf C8.CX0 X.prog X.w X.K X.mg X.base Ng x sg g cdg X.A X.stack s H C8.E0).nox bg t ∧ t { nx := fun _ H' => Q .non H', rt := Q } (L2.start Ng [.ref f]) H
section
variable {X : Cx}
theorem pe_lamcallS {T : List (Addr × Str)} {TT : (XK → Hp → VK → Prop) → Hp → VK → Prop} {x a : Str} {g c P : Addr} {k : Nat} {pg : Arguments} {bg : List Stmt} {sg : Scope} {dV kV doc pm cdv ct oc : Value} {an od : Option Addr} {osl : Array (Option Value)} {Ng : List Str}
    {params : Arguments} {body : Expr} {scope : Scope} {t : XK → TE} {p lpos pos : Pos} (hg : Gl X x) (hm : X.mg x = some (.ref g)) (hk : PySem.W.keepIn X.K (.ref g) = true)
    (lk : X.K.lookup g = some ⟨oc, od, .func (PySem.W.fnOf x x pg bg sg dV kV doc pm an cdv ct), osl⟩) (hcg : PySem.W.codeIn X.K cdv x = true) (hb : L2.Binds X.K (PySem.W.fnOf x x pg bg sg dV kV doc pm an cdv ct) [a] []) (Sg : FnScope Ng [a] sg) (hNg : Ng[0]? = some a) (hva : Vis sg a)
    (hG : GivesS X Ng x sg g cdv bg a (X.env.qual ++ "<lambda>") TT)
    (TB : TabB X.base X.mg c P) (hcode : X.env.code = .ref c) (hmT : (P, X.env.qual ++ "<lambda>") ∈ T) (hu : ∀ p ∈ T, p.1 = P → p.2 = X.env.qual ++ "<lambda>") (hr : Room (k + 2) X.A) (L : LamS X.env.scope scope) (hdef : defaultsOf params X.env = ([], []))
    (hbind : ∀ (q : Str) (cl : List (Str × Addr)) (pm cv ctv : Value), bindArgs (PySem.W.kla_fn "<lambda>" q params body scope cl pm cv ctv) ⟨[], []⟩ = pure [])
    (hbody : ∀ (A : Around) (outer : List Env) (s : Shared) (H : Hp) (E : XK) (f c' : Addr), Room k (A.deeper (lamEnv X scope s.heap.objs.size f c')) → PE (lamCx X A outer s H E scope f c') body (t E))
    (hdb : (x == ("__debug__" : Str)) = false := by decide) (hd : (a == ("__debug__" : Str)) = false := by decide) (hcd : (a == ("__classdict__" : Str)) = false := by decide) :
    PE X (.Call (.Name x p) [.Lambda params body scope lpos] [] pos) (tLam T TT t) := by
  refine ⟨fun pins s σ H Q I h => ?_⟩
  obtain ⟨hT, h⟩ := h
  refine wpAny_Call_Name_kw (ld_glob I hg hm ?_ hdb)
  refine PySem.W.callWith_K (h₀ := X.base) I.ok.mod.kin hk ?_ (by rfl) (by rfl)
  show wpAny _ _ (spliced ((false, eval (.Lambda params body scope lpos) X.env) :: backTo pos (starEach [] X.env))) _ _ s
  refine Calls.spliced_cons (lam_make2 I TB hcode hmT hu hT hdef (L.has I.ok) fun f c' pm' ctv H1 s' I1 eN T1 hf hfn hfr hco => ?_)
  refine Calls.spliced_nil ⟨I1.kIn, ?_⟩
  have rc : codeAny (model X.prog X.w) X.A (.call (.ref g) ⟨[.ref f], []⟩) (CR C8.CX0 X.stack X.prog X.w H1 s' Q C8.E0) s' := by
    refine run_ofS (N := Ng) (ps := [a]) (us := [.ref f]) (vs := [.ref f]) lk hcg Sg hr I1.env0 (hb s' [.ref f] I1.kIn rfl) (.cons rfl .nil) rfl fun hr' => ?_
    obtain ⟨t', ht', hq'⟩ := hG f c' s' H1 Q (fun E H' Q' => t E σ H' Q') (fun W pn xe p1 p2 tk => pe_actS (i := 0) I1 L hf hfn hfr (hbind _ _ _ _ _) tk hr' (fun A outer s H E hr2 => hbody A outer s H E f c' hr2) hNg hva hd hcd) hco (h H1 eN T1)
    exact ⟨t', ht'.nox, hq'⟩
  refine wpAny_call (codeAny_mono rc fun r s2 hq => ?_)
  cases r with
  | error e => exact (show False from hq).elim
  | ok fl =>
    cases fl with
    | ret u => exact I1.after hq
    | next => exact False.elim hq
    | brk => exact False.elim hq
    | cont => exact False.elim hq
end
end LamX
namespace DL
open PySem PySem.Spec PyProof.Rows L2
/-- a thunk's reading: draws so far, what is wanted of its value, of its exception -/
abbrev DThunk := NS → (D → NS → Prop) → DY → Prop
/-- the promise of a def that calls what it got -/
abbrev DTold := DThunk → NS → (D → NS → Prop) → Prop
def TTd (M : LK) (told : DTold) : (XK → Hp → VK → Prop) → Hp → VK → Prop := fun tl H Q => ∃ (fb : DTE) (pn : Addr) (G : Hp) (n : NS) (σ : L2.St) (δ : DEnv) (qd : D → NS → Prop),
  (∀ (E : XK) (H' : Hp) (Q' : VK), liftE M (fun cls d _ H' => E cls d H') fb σ H' Q' → tl E H' Q') ∧ Rep M pn G n σ δ H ∧ IsE M G σ δ ∧ told (fun n' q' y => fb δ n' q' fun _ => y) n qd ∧
  ∀ G' v d n' H', Adv pn G H G' H' → Rep M pn G' n' [] [] H' → Is M G' v d → qd d n' → Q v H'
/-- a(), a in slot i -/
def dAct (i : Nat) (f c : Addr) (q : Str) (σ : List (Option V)) (δ : DEnv) (fb : DTE) : DTE := fun δZ n qd e => δZ[i]? = some (some (.thk f c q σ δ)) ∧ ∃ (q' : D → NS → Prop) (y' : DY), (fb δ n q' fun _ => y') ∧ (∀ d n', q' d n' → qd d n') ∧ ∀ C ns ds n', y' C ns ds n' → e δZ C ns ds n'
section
variable {X : Cx} {M : LK} {W : WX} {pn : Addr} {G G1 H H1 : Hp} {n : NS}
theorem IsE.len {G : Hp} : ∀ {δ : List (Option D)} {σ : List (Option V)}, IsE M G σ δ → σ.length = δ.length
  | [], [], _ => rfl
  | d :: ds, v :: vs, h => by
    simp only [IsE] at h
    simp only [List.length_cons, IsE.len h.2]
  | [], _ :: _, h => by simp only [IsE] at h
  | _ :: _, [], h => by simp only [IsE] at h
theorem IsE.get {G : Hp} : ∀ {δ : List (Option D)} {σ : List (Option V)} {i : Nat} {d : D}, IsE M G σ δ → δ[i]? = some (some d) → ∃ v, σ[i]? = some (some v) ∧ Is M G v d
  | [], [], i, d, _, e => by simp at e
  | x :: ds, v :: vs, 0, d, h, e => by
    simp only [IsE] at h
    simp at e
    subst e
    cases v with
    | none => simp only [IsO] at h; exact h.1.elim
    | some v => simp only [IsO] at h; exact ⟨v, rfl, h.1⟩
  | x :: ds, v :: vs, i + 1, d, h, e => by
    simp only [IsE] at h
    obtain ⟨u, h1, h2⟩ := IsE.get (i := i) h.2 (by simpa using e)
    exact ⟨u, by simpa using h1, h2⟩
  | [], _ :: _, _, _, h, _ => by simp only [IsE] at h
  | _ :: _, [], _, _, h, _ => by simp only [IsE] at h
theorem IsE.env {σ : L2.St} {δ : DEnv} (h : IsE M G σ δ) : EnvIs M G σ δ where
  len := h.len
  at_ := fun i d e => h.get e
theorem isE_of {G : Hp} : ∀ {δ : DEnv} {σ : L2.St}, σ.length = δ.length → (∀ (i : Nat) (d : D), δ[i]? = some (some d) → ∃ v, σ[i]? = some (some v) ∧ Is M G v d) → IsE M G σ δ
  | [], [], _, _ => by simp only [IsE]
  | d :: δ, v :: σ, hl, h => by
    simp only [IsE]
    refine ⟨?_, isE_of (by simpa using hl) (fun i d e => by simpa using h (i + 1) d (by simpa using e))⟩
    cases d with
    | none => cases v <;> simp only [IsO]
    | some d =>
      obtain ⟨u, h1, h2⟩ := h 0 d rfl
      have e : v = some u := by simpa using h1
      subst e
      simp only [IsO]
      exact h2
  | [], _ :: _, hl, _ => by simp at hl
  | _ :: _, [], hl, _ => by simp at hl
/-- the tables have grown -/
theorem Rep.grow {σ : L2.St} {δ : DEnv} (R : Rep M pn G n σ δ H) (e : LamX.ExtN H H1) (t : LamX.Tabs M.L.T H1) : Rep M pn G n σ δ H1 ∧ Adv pn G H G H1 := by
  refine ⟨⟨fun a o h => e a o (R.ex _ _ h) (R.nt _ _ h), ⟨?_, R.pen.fr⟩, t, R.nt, R.pe, fun a o h => ?_, R.env⟩, ⟨Ext.refl _⟩⟩
  · obtain ⟨la, ns, a, l, h1, h2⟩ := R.pen.ob
    exact ⟨la, ns, a, l, e _ _ h1 notTbl_dK, h2⟩
  · obtain ⟨u, h1, h2, h3⟩ := R.mu a o h
    exact ⟨u, e _ _ h1 h2.nt, h2, h3⟩
/-- an object that never changes becomes known -/
theorem Rep.know {σ : L2.St} {δ : DEnv} {c : Addr} {q : Str} (R : Rep M pn G n σ δ H) (h : H c = some (LamX.CodeO c q)) : ∃ G1, Rep M pn G1 n σ δ H ∧ Adv pn G H G1 H ∧ G1 c = some (LamX.CodeO c q) := by
  obtain ⟨kvs, hk⟩ := R.hp
  cases e : G c with
  | some u =>
    have := R.ex _ _ e
    rw [h] at this
    cases this
    exact ⟨G, R, Adv.refl, e⟩
  | none =>
    have np : pn ≠ c := fun z => by
      rw [z, h] at hk
      unfold LamX.CodeO at hk
      cases hk
    have A : Adv pn G H (upd G c (LamX.CodeO c q)) H := ⟨Ext.new e⟩
    refine ⟨upd G c (LamX.CodeO c q), ⟨fun a u ea => ?_, R.pen.grow np e, R.tab, fun a u ea => ?_, R.pe, fun a u ea => ?_, R.env.up A⟩, A, upd_same⟩
    · by_cases z : a = c
      · subst z; rw [upd_same] at ea; cases ea; exact h
      · rw [upd_ne z] at ea; exact R.ex _ _ ea
    · by_cases z : a = c
      · subst z; rw [upd_same] at ea; cases ea; exact LamX.codeO_ne
      · rw [upd_ne z] at ea; exact R.nt _ _ ea
    · obtain ⟨x, h1, h2, h3, h4⟩ := R.mu a u ea
      have z : a ≠ c := fun z => by
        rw [z, h] at h1
        cases h1
        exact h2.nc _ _ rfl
      exact ⟨x, h1, h2.up A.ge, by rw [upd_ne z]; exact h3, h4⟩
theorem dp_act {e : Expr} {i : Nat} {f c : Addr} {q : Str} {σ : L2.St} {δ : DEnv} {fb : DTE} {tl : XK → Hp → VK → Prop} (h : PE X e (fun σZ HZ Q => σZ[i]? = some (some (.ref f)) ∧ HZ c = some (LamX.CodeO c q) ∧ tl (WE W σZ) HZ Q))
    (htl : ∀ (E : XK) (H' : Hp) (Q' : VK), liftE M (fun cls d _ H' => E cls d H') fb σ H' Q' → tl E H' Q') : PE X e (liftE M W (dAct i f c q σ δ fb)) :=
  PEw h fun σZ HZ Q ⟨pn, G, n, δZ, qd, ex, R, ⟨h1, q', y', h2, hq, hy⟩, hQ, hX⟩ => by
    obtain ⟨v, g1, g2⟩ := R.env.get h1
    simp only [Is] at g2
    obtain ⟨rfl, g2, g3⟩ := g2
    refine ⟨g1, R.ex _ _ g2, htl _ _ _ ⟨pn, G, n, δ, q', fun _ => y', R.env_of g3.env, h2, fun G' v d n' H' A' R' i' h' => hQ G' v d n' H' A' (R.back R'.bare A') i' (hq d n' h'), fun G' C a ns ds n' H' A' R' hx q => ?_⟩⟩
    exact hX G' C a ns ds n' H' A' (R.back R'.bare A') hx (hy C ns ds n' q)
/-- a def that calls what it got, by its body -/
theorem gives_D {Ng : List Str} {x a q : Str} {sg : Scope} {g : Addr} {cdg : Value} {bg : List Stmt} {told : DTold} (tb : Addr → Addr → List (Option V) → DEnv → DTE → DTS) (hN : 1 ≤ Ng.length)
    (hb : ∀ (s : Shared) (H : Hp) (f c : Addr) (σ : List (Option V)) (δ : DEnv) (fb : DTE), (∀ (W : WX) (pn : List (Addr × Obj)) (xe : Value → Shared → Prop) (p1 p2 : Pos), Takes ((cxOf C8.CX0 X.prog X.w X.K X.mg X.base Ng x sg g cdg X.A X.stack s H C8.E0).tr pn xe) W →
      PE ((cxOf C8.CX0 X.prog X.w X.K X.mg X.base Ng x sg g cdg X.A X.stack s H C8.E0).tr pn xe) (.Call (.Name a p1) [] [] p2) (liftE M W (dAct 0 f c q σ δ fb))) →
      PSs (cxOf C8.CX0 X.prog X.w X.K X.mg X.base Ng x sg g cdg X.A X.stack s H C8.E0).nox bg (liftS M W0 (tb f c σ δ fb)))
    (hs : ∀ f c σ δ fb n qd, told (fun n' q' y => fb δ n' q' fun _ => y) n qd → tb f c σ δ fb { nx := fun _ n' => qd .non n', rt := qd } (startD Ng [.thk f c q σ δ]) n) :
    LamX.GivesS X Ng x sg g cdg bg a q (TTd M told) := by
  intro f c s H Q tl act hc h
  obtain ⟨fb, pn, G, n, σ, δ, qd, htl, R, hE, ht, hQ⟩ := h
  obtain ⟨G1, R1, A1, g1⟩ := R.know hc
  refine ⟨_, hb s H f c σ δ fb fun W pn xe p1 p2 tk => dp_act (act W pn xe p1 p2 tk) htl, ?_⟩
  have hi : IsL M G1 [.ref f] [.thk f c q σ δ] := by
    simp only [IsL, Is]
    exact ⟨⟨trivial, g1, IsE.up A1.ge δ σ hE⟩, trivial⟩
  refine ⟨pn, G1, n, _, _, R1.bare.start hi, hs f c σ δ fb n qd ht, ⟨fun G' σ' δ' n' H' A' R' h' => ?_, fun G' σ' δ' v d n' H' A' R' i' h' => ?_, fun G' σ' δ' n' H' A' R' h' => h'.elim, fun G' σ' δ' n' H' A' R' h' => h'.elim, fun G' σ' δ' C a ns ds n' H' A' R' _ h' => h'.elim⟩⟩
  · exact hQ G' .non .non n' H' (R.tr A1 A') R'.bare (by simp only [Is]) h'
  · exact hQ G' v d n' H' (R.tr A1 A') R'.bare i' h'
/-- told(lambda: e) -/
def dLam (told : DTold) (fb : DTE) : DTE := fun δ n q _ => told (fun n' q' y => fb δ n' q' fun _ => y) n q
theorem dp_lam {e : Expr} {told : DTold} {fb : DTE} (h : PE X e (LamX.tLam M.L.T (TTd M told) fun E => liftE M (fun cls d _ H' => E cls d H') fb)) : PE X e (liftE M W (dLam told fb)) :=
  PEw h fun σ H Q ⟨pn, G, n, δ, q, ex, R, h2, hQ, hX⟩ => by
    refine ⟨R.tab, fun H1 eN t1 => ?_⟩
    obtain ⟨R1, A1⟩ := R.grow eN t1
    exact ⟨fb, pn, G, n, σ, δ, q, fun _ _ _ h => h, R1, isE_of R1.env.len R1.env.at_, h2, fun G' v d n' H' A' R' i' h' => hQ G' v d n' H' (R.tr A1 A') (R1.back R' A') i' h'⟩
end
end DL

set_option Elab.async false
set_option linter.all false
set_option maxRecDepth 100000
set_option maxHeartbeats 2000000
set_option autoImplicit false
/-! The pen: a dict of three entries. -/
namespace DL
open PySem PySem.Spec PyProof.Rows L2
structure KeysOk (M : LK) : Prop where
  a : M.ka ≠ "cells"
  l : M.kl ≠ "cells"
  la : M.kl ≠ M.ka
section
variable {X : Cx} {M : LK} {W : WX} {pn : Addr} {G G1 H H1 : Hp} {n : NS} {σ : L2.St} {δ : DEnv}
abbrev penK (M : LK) (la : Addr) (a l : Int) : List (Key × V) := [(.inr "cells", .ref la), (.inr M.ka, .int a), (.inr M.kl, .int l)]
theorem penK_c {la : Addr} {a l : Int} : valV (penK M la a l) (.inr "cells") = some (.ref la) := valV_pos rfl
theorem penK_a (K : KeysOk M) {la : Addr} {a l : Int} : valV (penK M la a l) (.inr M.ka) = some (.int a) := by
  rw [valV_neg (fun z => K.a (Sum.inr.inj z).symm), valV_pos rfl]
theorem penK_l (K : KeysOk M) {la : Addr} {a l : Int} : valV (penK M la a l) (.inr M.kl) = some (.int l) := by
  rw [valV_neg (fun z => K.l (Sum.inr.inj z).symm), valV_neg (fun z => K.la (Sum.inr.inj z).symm), valV_pos rfl]
theorem putK_a (K : KeysOk M) {la : Addr} {a l b : Int} : putK (penK M la a l) (.inr M.ka) (.int b) = penK M la b l := by
  unfold putK
  rw [valV_any, penK_a K]
  have h1 : ¬ ((Sum.inr "cells" : Key) = .inr M.ka) := fun z => K.a (Sum.inr.inj z).symm
  have h2 : ¬ ((Sum.inr M.kl : Key) = .inr M.ka) := fun z => K.la (Sum.inr.inj z)
  simp only [Option.isSome_some, if_true, List.map_cons, List.map_nil, if_neg h1, if_neg h2]
theorem putK_l (K : KeysOk M) {la : Addr} {a l b : Int} : putK (penK M la a l) (.inr M.kl) (.int b) = penK M la a b := by
  unfold putK
  rw [valV_any, penK_l K]
  have h1 : ¬ ((Sum.inr "cells" : Key) = .inr M.kl) := fun z => K.l (Sum.inr.inj z).symm
  have h2 : ¬ ((Sum.inr M.ka : Key) = .inr M.kl) := fun z => K.la (Sum.inr.inj z).symm
  simp only [Option.isSome_some, if_true, List.map_cons, List.map_nil, if_neg h1, if_neg h2]
/-- the pen's numbers are changed -/
theorem Rep.pen_put {la : Addr} {a l a' l' : Int} {m : Nat} (R : Rep M pn G n σ δ H) (h : H pn = some (.dK (penK M la a l))) (ha : 0 ≤ a' ∧ a' ≤ m) (hl : 0 ≤ l') : Rep M pn G ⟨m, n.mu⟩ σ δ (upd H pn (.dK (penK M la a' l'))) ∧ Adv pn G H G (upd H pn (.dK (penK M la a' l'))) := by
  refine ⟨⟨fun b o e => ?_, ⟨?_, R.pen.fr⟩, tabs_upd R.tab h notTbl_dK (fun c q z => by unfold LamX.CodeO at z; cases z), R.nt, R.pe, fun b o e => ?_, R.env⟩, ⟨Ext.refl _⟩⟩
  · have : b ≠ pn := fun z => by rw [z, R.pen.fr] at e; cases e
    rw [upd_ne this]; exact R.ex _ _ e
  · obtain ⟨la2, ns, a2, l2, h1, h2, h3, h4, h5, h6, h7⟩ := R.pen.ob
    have e : la2 = la := by
      have z := h1.symm.trans h
      cases z
      rfl
    subst e
    exact ⟨la2, ns, a', l', upd_same, h2, h3, ha.1, ha.2, hl, h7⟩
  · obtain ⟨x, h1, h2, h3, h4⟩ := R.mu b o e
    exact ⟨x, by rw [upd_ne h4]; exact h1, h2, h3, h4⟩
def dPenC (cs : List Int) (f : DTE) : DTE := fun δ n q e => f δ n (fun x n1 => match x with | .pen => cs.length ≤ 63 → q (.lst (cs.map .int)) n1 | _ => False) e
def dPenA (f : DTE) : DTE := fun δ n q e => f δ n (fun x n1 => match x with | .pen => ∀ a : Int, 0 ≤ a → a ≤ n1.at_ → q (.int a) n1 | _ => False) e
def dPenL (f : DTE) : DTE := fun δ n q e => f δ n (fun x n1 => match x with | .pen => ∀ l : Int, 0 ≤ l → q (.int l) n1 | _ => False) e
theorem IsL.of_ints : ∀ {ns : List Int}, IsL M G (ns.map V.int) (ns.map D.int)
  | [] => by simp only [List.map_nil, IsL]
  | i :: ns => by
    simp only [List.map_cons, IsL, Is]
    exact ⟨trivial, IsL.of_ints⟩
theorem dp_penc {o i : Expr} {pos : Pos} {f : DTE} (hu : X.A.units + 1 < cLine) (ho : PE X o (liftE M W f)) (hi : PE X i (tC (.str "cells"))) (hs : NoSl i) : PE X (.Subscript o i pos) (liftE M W (dPenC M.cs f)) :=
  PEw (pe_dget hu ho hi hs) fun σ H Q ⟨pn, G, n, δ, q, e, R, hf, hQ, hX⟩ => by
    refine ⟨pn, G, n, δ, _, e, R, hf, fun G1 v x n1 H1 A1 R1 i1 h1 => ?_, hX⟩
    cases x with
    | pen =>
      simp only [Is] at i1
      subst i1
      obtain ⟨la, ns, a, l, g1, g2, g3, g4, g5, g6, rfl⟩ := R1.pen.ob
      have e := R1.pe
      subst e
      refine ⟨_, .ref la, rfl, .inl ⟨_, .inr "cells", .inl g1, rfl, penK_c.symm⟩, hQ G1 _ _ n1 H1 A1 R1 ?_ (h1 g3)⟩
      simp only [Is]
      exact ⟨la, _, rfl, g2, IsL.of_ints⟩
    | _ => exact h1.elim
theorem dp_pena {o i : Expr} {pos : Pos} {f : DTE} (K : KeysOk M) (hu : X.A.units + 1 < cLine) (ho : PE X o (liftE M W f)) (hi : PE X i (tC (.str M.ka))) (hs : NoSl i) : PE X (.Subscript o i pos) (liftE M W (dPenA f)) :=
  PEw (pe_dget hu ho hi hs) fun σ H Q ⟨pn, G, n, δ, q, e, R, hf, hQ, hX⟩ => by
    refine ⟨pn, G, n, δ, _, e, R, hf, fun G1 v x n1 H1 A1 R1 i1 h1 => ?_, hX⟩
    cases x with
    | pen =>
      simp only [Is] at i1
      subst i1
      obtain ⟨la, ns, a, l, g1, g2, g3, g4, g5, g6, rfl⟩ := R1.pen.ob
      have e := R1.pe
      subst e
      refine ⟨_, .int a, rfl, .inl ⟨_, .inr M.ka, .inl g1, rfl, (penK_a K).symm⟩, hQ G1 _ _ n1 H1 A1 R1 ?_ (h1 a g4 g5)⟩
      simp only [Is]
    | _ => exact h1.elim
theorem dp_penl {o i : Expr} {pos : Pos} {f : DTE} (K : KeysOk M) (hu : X.A.units + 1 < cLine) (ho : PE X o (liftE M W f)) (hi : PE X i (tC (.str M.kl))) (hs : NoSl i) : PE X (.Subscript o i pos) (liftE M W (dPenL f)) :=
  PEw (pe_dget hu ho hi hs) fun σ H Q ⟨pn, G, n, δ, q, e, R, hf, hQ, hX⟩ => by
    refine ⟨pn, G, n, δ, _, e, R, hf, fun G1 v x n1 H1 A1 R1 i1 h1 => ?_, hX⟩
    cases x with
    | pen =>
      simp only [Is] at i1
      subst i1
      obtain ⟨la, ns, a, l, g1, g2, g3, g4, g5, g6, rfl⟩ := R1.pen.ob
      have e := R1.pe
      subst e
      refine ⟨_, .int l, rfl, .inl ⟨_, .inr M.kl, .inl g1, rfl, (penK_l K).symm⟩, hQ G1 _ _ n1 H1 A1 R1 ?_ (h1 l g6)⟩
      simp only [Is]
    | _ => exact h1.elim
/-- pen[at] = v -/
def dPutA (fv fp : DTE) : DTS := fun k δ n => fv δ n (fun v n1 => fp δ n1 (fun x n2 => match x, v with | .pen, .int a => (0 ≤ a ∧ a ≤ n2.at_ + 1) ∧ k.nx δ ⟨n2.at_ + 1, n2.mu⟩ | _, _ => False) k.ex) k.ex
def dPutL (fv fp : DTE) : DTS := fun k δ n => fv δ n (fun v n1 => fp δ n1 (fun x n2 => match x, v with | .pen, .int l => 0 ≤ l ∧ k.nx δ n2 | _, _ => False) k.ex) k.ex
theorem ds_puta {o i value : Expr} {pos pos' : Pos} {fv fp : DTE} (K : KeysOk M) (hu : X.A.units + 1 < cLine) (ho : PE X o (liftE M W fp)) (hi : PE X i (tC (.str M.ka))) (hv : PE X value (liftE M W fv)) (hs : swapsWith value (some (.Subscript o i pos')) pos.line X.env = pure false := by rfl) :
    PS X (.Assign [.Subscript o i pos'] value pos) (liftS M W (dPutA fv fp)) :=
  PSw (ps_dput hu ho hi hv hs) fun D₀ σ H ⟨pn, G, n, δ, k, R, hf, s⟩ => by
    refine ⟨pn, G, n, δ, _, k.ex, R, hf, fun G1 v x n1 H1 A1 R1 i1 h1 => ?_, s.xe⟩
    refine ⟨pn, G1, n1, δ, _, k.ex, R1, h1, fun G2 u y n2 H2 A2 R2 i2 h2 => ?_, (s.on R A1).xe⟩
    split at h2
    · rename_i a
      simp only [Is] at i1 i2
      subst i1; subst i2
      obtain ⟨la, ns, a0, l, g1, g2, g3, g4, g5, g6, rfl⟩ := R2.pen.ob
      have e := R2.pe
      subst e
      obtain ⟨R3, A3⟩ := R2.pen_put (m := n2.at_ + 1) g1 (a' := a) (by simpa using h2.1) g6
      refine ⟨_, _, rfl, .inl ⟨_, .inr M.ka, g1, rfl, (by show 3 < sizeLine; decide), by rw [putK_a K]⟩, s.nx _ _ _ _ _ (R.tr (R.tr A1 A2) A3) R3 h2.2⟩
    · exact h2.elim
theorem ds_putl {o i value : Expr} {pos pos' : Pos} {fv fp : DTE} (K : KeysOk M) (hu : X.A.units + 1 < cLine) (ho : PE X o (liftE M W fp)) (hi : PE X i (tC (.str M.kl))) (hv : PE X value (liftE M W fv)) (hs : swapsWith value (some (.Subscript o i pos')) pos.line X.env = pure false := by rfl) :
    PS X (.Assign [.Subscript o i pos'] value pos) (liftS M W (dPutL fv fp)) :=
  PSw (ps_dput hu ho hi hv hs) fun D₀ σ H ⟨pn, G, n, δ, k, R, hf, s⟩ => by
    refine ⟨pn, G, n, δ, _, k.ex, R, hf, fun G1 v x n1 H1 A1 R1 i1 h1 => ?_, s.xe⟩
    refine ⟨pn, G1, n1, δ, _, k.ex, R1, h1, fun G2 u y n2 H2 A2 R2 i2 h2 => ?_, (s.on R A1).xe⟩
    split at h2
    · rename_i l'
      simp only [Is] at i1 i2
      subst i1; subst i2
      obtain ⟨la, ns, a0, l, g1, g2, g3, g4, g5, g6, rfl⟩ := R2.pen.ob
      have e := R2.pe
      subst e
      obtain ⟨R3, A3⟩ := R2.pen_put (m := n2.at_) g1 (l' := l') ⟨g4, g5⟩ h2.1
      refine ⟨_, _, rfl, .inl ⟨_, .inr M.kl, g1, rfl, (by show 3 < sizeLine; decide), by rw [putK_l K]⟩, s.nx _ _ _ _ _ (R.tr (R.tr A1 A2) A3) R3 h2.2⟩
    · exact h2.elim
end
end DL

set_option Elab.async false
set_option linter.all false
set_option maxRecDepth 100000
set_option maxHeartbeats 2000000
set_option autoImplicit false
/-! The pen made, the law begun. -/
namespace DL
open PySem PySem.Spec PyProof.Rows L2
abbrev penKV (ka kl : Str) (la : Addr) (a l : Int) : List (Key × V) := [(.inr "cells", .ref la), (.inr ka, .int a), (.inr kl, .int l)]
/-- the pen of a script of at most 63 numbers -/
def spPen (K : PySem.W.Frag) (ka kl : Str) : Sp := fun vs H Q _ => ∃ (a : Addr) (ns : List Int), vs = [.ref a] ∧ SqL K H a (ns.map V.int) ∧ ns.length ≤ 63 ∧
  ∀ p sl la, H p = none → sl ≠ p → H sl = none → la ≠ p → la ≠ sl → H la = none → Q (.ref p) (upd (upd (upd (upd H p (.dK [])) sl (.lst (ns.map V.int))) la (.lst (ns.map V.int))) p (.dK (penKV ka kl la 0 0)))
def tPen (K : PySem.W.Frag) (ka kl : Str) : TS := tRet (tDisp [(tC (.str "cells"), tCB (fun xs H Q => ∃ p ys, xs = [.ref p] ∧ (SqL K H p ys ∨ SqT K H p ys) ∧ ∀ l, H l = none → Q (.ref l) (upd H l (.lst ys))) (tCons (tSl (rSlL K) (tVar 0) tNoPart (tPart (tC (.int 63)))) tNil)), (tC (.str ka), tC (.int 0)), (tC (.str kl), tC (.int 0))])
theorem upd_none {H : Hp} {a p : Addr} {o : HO} (h : H a = none) (hn : a ≠ p) : upd H p o a = none := by rw [upd_ne hn]; exact h
theorem none_upd {H : Hp} {a p : Addr} {o : HO} (h : upd H p o a = none) : a ≠ p ∧ H a = none := by
  by_cases z : a = p
  · rw [z, upd_same] at h; cases h
  · rw [upd_ne z] at h; exact ⟨z, h⟩
theorem merge3 {ka kl : Str} (h1 : ka ≠ "cells") (h2 : kl ≠ "cells") (h3 : kl ≠ ka) (la : Addr) : mergeK [] (penKV ka kl la 0 0) = penKV ka kl la 0 0 := by
  have e1 : ¬ ((Sum.inr "cells" : Key) = .inr ka) := fun z => h1 (Sum.inr.inj z).symm
  have e2 : ¬ ((Sum.inr "cells" : Key) = .inr kl) := fun z => h2 (Sum.inr.inj z).symm
  have e3 : ¬ ((Sum.inr ka : Key) = .inr kl) := fun z => h3 (Sum.inr.inj z).symm
  simp [mergeK, penKV, putK, e1, e2, e3]
theorem pen_pure {K : PySem.W.Frag} {ka kl x : Str} (h1 : ka ≠ "cells") (h2 : kl ≠ "cells") (h3 : kl ≠ ka) (vs : List V) (H : Hp) (Q : VK) (E : XK) (h : spPen K ka kl vs H Q E) : tPen K ka kl { nx := fun _ H' => Q .non H', rt := Q } (L2.start [x] vs) H := by
  obtain ⟨a, ns, rfl, hS, hl, hq⟩ := h
  have hcut : cutV (ns.map V.int) none (some 63) = ns.map V.int := by
    unfold cutV
    have : HT.sIx (ns.map V.int).length (ns.map V.int).length (some 63) = (ns.map V.int).length := by
      have := HT.sIx_nat (ns.map V.int).length (ns.map V.int).length 63
      rw [show ((63 : Nat) : Int) = 63 from rfl] at this
      rw [this, List.length_map]
      omega
    rw [this, HT.sIx_none, List.drop_zero, Nat.sub_zero, List.take_length]
  intro p hp
  refine ⟨.ref a, rfl, 63, rfl, a, ns.map V.int, rfl, Ext.seqL (Ext.new hp) hS, fun sl hsl => ?_⟩
  obtain ⟨n1, hsl'⟩ := none_upd hsl
  rw [hcut]
  refine ⟨sl, ns.map V.int, rfl, .inl (SqL.of upd_same), fun la hla => ?_⟩
  obtain ⟨n2, hla'⟩ := none_upd hla
  obtain ⟨n3, hla''⟩ := none_upd hla'
  refine ⟨by rw [upd_ne (Ne.symm n3), upd_ne (Ne.symm n1), upd_same], penKV ka kl la 0 0, rfl, (by show 3 ≤ 15; decide), ?_⟩
  rw [merge3 h1 h2 h3]
  exact hq p sl la hp n1 hsl' n3 n2 hla''
/-- the law's promise -/
def spLaw (K : PySem.W.Frag) (T : List (Addr × Str)) : Sp := fun vs H Q _ => ∃ (a : Addr) (ns : List Int), vs = [.ref a] ∧ ns.length ≤ 63 ∧ (∀ p ∈ T, H p.1 = some (.tbl #[])) ∧ SqL K H a (ns.map V.int) ∧ ∀ H', Q (.bl true) H'
abbrev MK (K : PySem.W.Frag) (T : List (Addr × Str)) (ka kl : Str) (pn : Addr) (cs : List Int) : LK := ⟨⟨K, T⟩, ka, kl, pn, cs⟩
def tLaw (K : PySem.W.Frag) (T : List (Addr × Str)) (ka kl : Str) (W : WX) (t : List Int → DTS) : TS := fun D σ H => ∃ pn cs, liftS (MK K T ka kl pn cs) W (t cs) D σ H
theorem pss_law {X : Cx} {b : List Stmt} {K : PySem.W.Frag} {T : List (Addr × Str)} {ka kl : Str} {W : WX} {t : List Int → DTS} (h : ∀ pn cs, PSs X b (liftS (MK K T ka kl pn cs) W (t cs))) : PSs X b (tLaw K T ka kl W t) :=
  ⟨fun pins s σ H D I ⟨pn, cs, q⟩ => (h pn cs).run pins s σ H D I q⟩
/-- the state in which the pen has been made -/
theorem Rep.first0 {K : PySem.W.Frag} {T : List (Addr × Str)} {ka kl : Str} {m : Nat} {H : Hp} {a p sl la : Addr} {ns : List Int} {g : Option HO} (hg : ∀ o, g = some o → H a = some o ∧ notTbl o) (hs : SqL K (fun b => if b = a then g else none) a (ns.map V.int)) (hT : ∀ q ∈ T, H q.1 = some (.tbl #[])) (hl : ns.length ≤ 63) (hp : H p = none) (n1 : sl ≠ p) (hsl : H sl = none) (n2 : la ≠ p) (n3 : la ≠ sl) (hla : H la = none) :
    Rep (MK K T ka kl p ns) p (upd (fun b => if b = a then g else none) la (.lst (ns.map V.int))) ⟨0, fun _ => none⟩ (some (.ref a) :: some (.ref p) :: List.replicate m none) (some .scr :: some .pen :: List.replicate m none)
      (upd (upd (upd (upd H p (.dK [])) sl (.lst (ns.map V.int))) la (.lst (ns.map V.int))) p (.dK (penKV ka kl la 0 0))) := by
  have gl : (fun b => if b = a then g else none) la = none := by
    show (if la = a then g else none) = none
    by_cases z : la = a
    · rw [if_pos z]
      cases e : g with
      | none => rfl
      | some o => rw [z, (hg o e).1] at hla; cases hla
    · rw [if_neg z]
  have e0 : Ext (fun b => if b = a then g else none) (upd (fun b => if b = a then g else none) la (.lst (ns.map V.int))) := Ext.new gl
  have ga : ∀ b o, (if b = a then g else none) = some o → H b = some o ∧ notTbl o := fun b o e => by
    by_cases z : b = a
    · rw [if_pos z] at e
      rw [z]
      exact hg o e
    · rw [if_neg z] at e; cases e
  refine ⟨fun b o e => ?_, ⟨⟨la, ns, 0, 0, upd_same, upd_same, hl, by decide, by decide, by decide, rfl⟩, ?_⟩, fun q hq => ?_, fun b o e => ?_, rfl, (fun a o e => by cases e), ⟨by simp, fun i d e => ?_⟩⟩
  · by_cases z : b = la
    · rw [z, upd_same] at e
      rw [z, upd_ne n2, upd_same]
      exact e
    · rw [upd_ne z] at e
      have h0 := (ga b o e).1
      have e1 : b ≠ p := fun z => by rw [z, hp] at h0; cases h0
      have e2 : b ≠ sl := fun z => by rw [z, hsl] at h0; cases h0
      rw [upd_ne e1, upd_ne z, upd_ne e2, upd_ne e1]
      exact h0
  · rw [upd_ne (Ne.symm n2)]
    show (if p = a then g else none) = none
    by_cases z : p = a
    · rw [if_pos z]
      cases e : g with
      | none => rfl
      | some o => rw [z, (hg o e).1] at hp; cases hp
    · rw [if_neg z]
  · have h0 := hT q hq
    have e1 : q.1 ≠ p := fun z => by rw [z, hp] at h0; cases h0
    have e2 : q.1 ≠ sl := fun z => by rw [z, hsl] at h0; cases h0
    have e3 : q.1 ≠ la := fun z => by rw [z, hla] at h0; cases h0
    exact LamX.TabS.nil (by rw [upd_ne e1, upd_ne e3, upd_ne e2, upd_ne e1]; exact h0)
  · by_cases z : b = la
    · rw [z, upd_same] at e; cases e; exact notTbl_lst
    · rw [upd_ne z] at e
      exact (ga b o e).2
  · match i with
    | 0 =>
      simp at e
      subst e
      exact ⟨.ref a, rfl, by simp only [Is]; exact ⟨a, rfl, e0.seqL hs⟩⟩
    | 1 =>
      simp at e
      subst e
      exact ⟨.ref p, rfl, by simp only [Is]⟩
    | i + 2 =>
      simp [List.getElem?_replicate] at e
theorem Rep.first {K : PySem.W.Frag} {T : List (Addr × Str)} {ka kl : Str} {m : Nat} {H : Hp} {a p sl la : Addr} {ns : List Int} (hS : SqL K H a (ns.map V.int)) (hT : ∀ q ∈ T, H q.1 = some (.tbl #[])) (hl : ns.length ≤ 63) (hp : H p = none) (n1 : sl ≠ p) (hsl : H sl = none) (n2 : la ≠ p) (n3 : la ≠ sl) (hla : H la = none) :
    ∃ G, Rep (MK K T ka kl p ns) p G ⟨0, fun _ => none⟩ (some (.ref a) :: some (.ref p) :: List.replicate m none) (some .scr :: some .pen :: List.replicate m none)
      (upd (upd (upd (upd H p (.dK [])) sl (.lst (ns.map V.int))) la (.lst (ns.map V.int))) p (.dK (penKV ka kl la 0 0))) := by
  rcases hS with (h | ⟨o, h⟩) | h
  · exact ⟨_, Rep.first0 (g := some (.lst (ns.map V.int))) (fun o e => by cases e; exact ⟨h, notTbl_lst⟩) (.inl (.inl (if_pos rfl))) hT hl hp n1 hsl n2 n3 hla⟩
  · exact ⟨_, Rep.first0 (g := some (.frz o (.lst (ns.map V.int)))) (fun o e => by cases e; exact ⟨h, fun ps z => by cases z⟩) (.inl (.inr ⟨o, if_pos rfl⟩)) hT hl hp n1 hsl n2 n3 hla⟩
  · exact ⟨_, Rep.first0 (g := none) (fun o e => by cases e) (.inr h) hT hl hp n1 hsl n2 n3 hla⟩
theorem law_pure {K : PySem.W.Frag} {T : List (Addr × Str)} {ka kl : Str} {W : WX} {WS : L2.St → XK} {N : List Str} {m : Nat} {t : List Int → DTS} (hN : N.length = m + 2) (ht : ∀ cs : List Int, cs.length ≤ 63 → t cs { nx := fun _ _ => False, rt := fun d _ => d = .bl true } (some .scr :: some .pen :: List.replicate m none) ⟨0, fun _ => none⟩)
    (vs : List V) (H : Hp) (Q : VK) (E : XK) (h : spLaw K T vs H Q E) : tSeq (tAsg (tCallSD (spPen K ka kl) [] WS (tCons (tVar 0) tNil)) (gName 1)) (tLaw K T ka kl W t) { nx := fun _ H' => Q .non H', rt := Q } (L2.start N vs) H := by
  obtain ⟨a, ns, rfl, hl, hT, hS, hq⟩ := h
  have e0 : L2.start N [.ref a] = some (.ref a) :: none :: List.replicate m none := by
    unfold L2.start
    rw [hN]
    rfl
  rw [e0]
  refine ⟨.ref a, rfl, a, ns, rfl, hS, hl, fun p sl la hp n1 hsl n2 n3 hla => ?_⟩
  obtain ⟨G0, R0⟩ := Rep.first (ka := ka) (kl := kl) (m := m) (a := a) hS hT hl hp n1 hsl n2 n3 hla
  refine ⟨p, ns, p, G0, ⟨0, fun _ => none⟩, _, _, R0, ht ns hl, ⟨fun _ _ _ _ _ _ _ h => h.elim, fun G' σ' δ' v d n' H' A' R' i' h' => ?_, fun _ _ _ _ _ _ _ h => h.elim, fun _ _ _ _ _ _ _ h => h.elim, fun _ _ _ _ _ _ _ _ _ _ _ _ h => h.elim⟩⟩
  subst h'
  simp only [Is] at i'
  subst i'
  exact hq _
end DL

set_option Elab.async false
set_option linter.all false
set_option maxRecDepth 100000
set_option maxHeartbeats 2000000
set_option autoImplicit false
/-! Defs of the module and their calls. -/
namespace DL
open PySem PySem.Spec PyProof.Rows L2
/-- a def of the module as the top has left it -/
structure DefT (K : PySem.W.Frag) (mg : Str → Option Value) (x : Str) (st : Stmt) (ps : List Str) : Prop where
  ex : ∃ f fd, Fun K x x st f fd ∧ mg x = some (.ref f) ∧ PySem.W.keepIn K (.ref f) = true ∧ Binds K fd ps []
/-- .. whose code object stands at c -/
structure DefC (K : PySem.W.Frag) (mg : Str → Option Value) (x : Str) (st : Stmt) (ps : List Str) (c : Addr) : Prop where
  ex : ∃ (f : Addr) (oc : Value) (od an : Option Addr) (osl : Array (Option Value)) (dV kV doc pm ct : Value), K.lookup f = some ⟨oc, od, .func (PySem.W.fnOf x x (defArgs st) (defBody st) (defScope st) dV kV doc pm an (.ref c) ct), osl⟩ ∧ PySem.W.codeIn K (.ref c) x = true ∧
    mg x = some (.ref f) ∧ PySem.W.keepIn K (.ref f) = true ∧ Binds K (PySem.W.fnOf x x (defArgs st) (defBody st) (defScope st) dV kV doc pm an (.ref c) ct) ps []
/-- a def that holds its promise -/
structure CalD (P : Program) (w : World) (K : PySem.W.Frag) (mg : Str → Option Value) (base : Heap) (M : LK) (k : Nat) (x : Str) (ps : List Str) (s : DSp) : Prop where
  ex : ∃ f fd, FnOk P w K mg base (L2.CX P w) k f fd ps (lift M ps.length s) ∧ mg x = some (.ref f) ∧ PySem.W.keepIn K (.ref f) = true ∧ Binds K fd ps []
theorem CalD.of {P : Program} {w : World} {mg : Str → Option Value} {base : Heap} {M : LK} {x : Str} {st : Stmt} {N ps : List Str} {k : Nat} {s : DSp} (D : DefT M.L.K mg x st ps) (S : FnScope N ps (defScope st)) (t : DTS)
    (hb : ∀ (f : Addr) (cdv : Value) (A : Around) (outer : List Env) (s0 : Shared) (H : Hp) (E : XK), Room k (A.deeper (envOfC x (defScope st) s0.heap.objs.size f cdv)) →
      PSs (cxOf (L2.CX P w) P w M.L.K mg base N x (defScope st) f cdv A outer s0 H E) (defBody st) (liftS M (fun cls d _ H' => E cls d H') t))
    (hs : ∀ ds n q e, ds.length = ps.length → s ds n q e → t { nx := fun _ n' => q .non n', rt := q, ex := fun _ => e } (startD N ds) n) : CalD P w M.L.K mg base M (k + 1) x ps s := by
  obtain ⟨f, fd, F, hm, kp, b⟩ := D.ex
  exact ⟨f, fd, dfn F S t (hb f) hs, hm, kp, b⟩
theorem CalD.ofC {P : Program} {w : World} {mg : Str → Option Value} {base : Heap} {M : LK} {x : Str} {st : Stmt} {N ps : List Str} {k : Nat} {s : DSp} {c : Addr} (D : DefC M.L.K mg x st ps c) (S : FnScope N ps (defScope st)) (t : DTS)
    (hb : ∀ (f : Addr) (A : Around) (outer : List Env) (s0 : Shared) (H : Hp) (E : XK), Room k (A.deeper (envOfC x (defScope st) s0.heap.objs.size f (.ref c))) →
      PSs (cxOf (L2.CX P w) P w M.L.K mg base N x (defScope st) f (.ref c) A outer s0 H E) (defBody st) (liftS M (fun cls d _ H' => E cls d H') t))
    (hs : ∀ ds n q e, ds.length = ps.length → s ds n q e → t { nx := fun _ n' => q .non n', rt := q, ex := fun _ => e } (startD N ds) n) : CalD P w M.L.K mg base M (k + 1) x ps s := by
  obtain ⟨f, oc, od, an, osl, dV, kV, doc, pm, ct, lk, hcd, hm, kp, b⟩ := D.ex
  refine ⟨f, _, fn_of lk hcd S (fun vs H Q E h => lift_len h) fun A outer s0 H vs Q E hr h => ⟨_, hb f A outer s0 H E hr, ?_⟩, hm, kp, b⟩
  obtain ⟨pn, G, n, ds, q, e, R, hi, hk, hsp, hQ, hE⟩ := h
  refine ⟨pn, G, n, _, _, R.start hi, hs ds n q e hk hsp, ⟨fun G' σ' δ' n' H' A' R' h' => hQ G' .non .non n' H' A' R'.bare (by simp only [Is]) h', fun G' σ' δ' v d n' H' A' R' i' h' => hQ G' v d n' H' A' R'.bare i' h', fun G' σ' δ' n' H' A' R' h' => h'.elim, fun G' σ' δ' n' H' A' R' h' => h'.elim,
    fun G' σ' δ' C a ns xs n' H' A' R' x' h' => hE G' C a ns xs n' H' A' R'.bare x' h'⟩⟩
/-- a call of a def -/
def dCal (k : Nat) (s : DSp) (f : DTA) : DTE := fun δ n q e => f δ n (fun xs n1 => xs.length = k ∧ s xs n1 q (e δ)) e
section
variable {X : Cx} {M : LK} {W : WX} {x : Str} {p pos : Pos} {e : Expr} {es : List Expr} {f : DTA} {k j : Nat} {ps : List Str} {s : DSp}
theorem lift_cal (σ : L2.St) (H : Hp) (Q : VK) (h : liftE M W (dCal k s f) σ H Q) : tCallSD (lift M k s) [] (fun σ cls d H' => W cls d σ H') (liftA M W f) σ H Q := by
  obtain ⟨pn, G, n, δ, q, e, R, hf, hQ, hX⟩ := h
  refine ⟨pn, G, n, δ, _, e, R, hf, fun G1 vs ds n1 H1 A1 R1 i1 h1 => ?_, hX⟩
  show lift M k s (vs ++ []) H1 Q _
  rw [List.append_nil]
  exact ⟨pn, G1, n1, ds, q, e δ, R1.bare, i1, h1.1, h1.2, fun G2 v d n2 H2 A2 R2 i2 h2 => hQ G2 v d n2 H2 (R.tr A1 A2) (R1.back R2 A2) i2 h2, fun G2 C a ns xs n2 H2 A2 R2 x2 h2 => hX G2 C a ns xs n2 H2 (R.tr A1 A2) (R1.back R2 A2) x2 h2⟩
theorem dp_cal {m : Nat} (c : CalD X.prog X.w X.K X.mg X.base M k x ps s) (hr : Room j X.A) (hkj : k ≤ j) (tk : Takes X W) (hg : Gl X x) (ha : PA X (e :: es) (liftA M W f)) (hm : ps.length = m := by rfl) (hdb : (x == ("__debug__" : Str)) = false := by decide)
    (he : starEach (e :: es) X.env = (false, eval e X.env) :: starEach es X.env := by exact starEach_cons rfl) (hpl : (backTo pos (starEach es X.env)).any (·.1) = false := by rfl) : PE X (.Call (.Name x p) (e :: es) [] pos) (liftE M W (dCal m s f)) := by
  subst hm
  obtain ⟨g, fd, F, hm, kp, b⟩ := c.ex
  exact PEw (pe_callSD (dvs := []) (ds := []) F (hr.mono hkj) hg hm kp b .nil (fun σ => passAt tk σ) ha hdb he hpl) lift_cal
/-- .. without arguments -/
theorem dp_cal0 (c : CalD X.prog X.w X.K X.mg X.base M k x [] s) (hr : Room j X.A) (hkj : k ≤ j) (tk : Takes X W) (hg : Gl X x) (hdb : (x == ("__debug__" : Str)) = false := by decide) : PE X (.Call (.Name x p) [] [] pos) (liftE M W (dCal 0 s dNil)) := by
  obtain ⟨g, fd, F, hm, kp, b⟩ := c.ex
  have h : PE X (.Call (.Name x p) [] [] pos) (tCallSD (lift M 0 s) [] (fun σ cls d H' => W cls d σ H') tNil) := by
    refine ⟨fun pins s σ H Q I h => ?_⟩
    refine wpAny_Call_Name_kw (ld_glob I hg hm ?_ hdb)
    exact PySem.W.callWith_K0 I.kIn kp (run_fnSD (us := []) (vs := []) (dvs := []) F (hr.mono hkj) b .nil (passAt tk σ) I .nil h)
  refine PEw h fun σ H Q hl => ?_
  obtain ⟨pn, G, n, δ, q, ex, R, hf, hQ, hX⟩ := lift_cal σ H Q hl
  exact hQ G [] [] n H Adv.refl R (by simp only [IsL]) hf
/-- a name of the module that stands for a number, a text -/
theorem dp_gi {i : Int} (h : ∃ u, X.mg x = some u ∧ RelV (.int i) u) (hg : Gl X x) (hd : (x == ("__debug__" : Str)) = false := by decide) : PE X (.Name x pos) (liftE M W (dC (.int i))) := dp_c (C8.pe_gc hg h hd) fun _ => by simp only [Is]
theorem dp_gs {l : List Nat} (h : ∃ u, X.mg x = some u ∧ RelV (.str (S l)) u) (hg : Gl X x) (hd : (x == ("__debug__" : Str)) = false := by decide) : PE X (.Name x pos) (liftE M W (dC (.str l))) := dp_c (C8.pe_gc hg h hd) fun _ => by simp only [Is]
end
end DL

set_option Elab.async false
set_option linter.all false
set_option maxRecDepth 100000
set_option maxHeartbeats 2000000
set_option autoImplicit false
/-! An own error of two fields whose __init__ says super().__init__(f, g), above ValueError by way of other own classes: made, raised. -/
namespace PySem
namespace EY
open PySem.EX (ldC call_mw)
open PySem.W PySem.Calls PyProof.Rows PySem.HandSPX
/-! ### the text of __init__ -/
def iA (f g : Str) (p1 p2 p3 : Pos) : Arguments := { posonlyargs := [], args := [{ arg := "self", annotation := none, pos := p1 }, { arg := f, annotation := none, pos := p2 }, { arg := g, annotation := none, pos := p3 }], vararg := none, kwonlyargs := [], kw_defaults := [], kwarg := none, defaults := [] }
def iB (f g : Str) (a1 a2 a3 a4 a7 a5 a6 b1 b2 b3 b4 c1 c2 c3 c4 : Pos) : List Stmt :=
  [.Expr (.Call (.Attribute (.Call (.Name "super" a1) [] [] a2) "__init__" a3) [.Name f a4, .Name g a7] [] a5) a6, .Assign [.Attribute (.Name "self" b1) f b2] (.Name f b3) b4, .Assign [.Attribute (.Name "self" c1) g c2] (.Name g c3) c4]
def iS (f g : Str) : Scope := { kind := .function, names := [(PySem.Str.ofString "self", .local), (f, .local), (g, .local), (PySem.Str.ofString "__class__", .free), (PySem.Str.ofString "super", .globalImplicit)], isGenerator := false, isCoroutine := false, more := [] }
/-- the ways in which two fields may be handed in -/
inductive ArgsOf (f g : Str) (v u : Value) : List Value → Args → Prop where
  | pos {ws : List Value} : ArgsOf f g v u ws ⟨ws ++ [v, u], []⟩
  | mix {ws : List Value} : ArgsOf f g v u ws ⟨ws ++ [v], [(g, u)]⟩
  | kws {ws : List Value} : ArgsOf f g v u ws ⟨ws, [(f, v), (g, u)]⟩
  | rev {ws : List Value} : ArgsOf f g v u ws ⟨ws, [(g, u), (f, v)]⟩
theorem two_len (v u : Value) : [v, u].length ≤ sizeLine := by
  rw [sizeLine_eq]
  exact (by decide : 2 ≤ 16777216)
theorem ArgsOf.size {f g : Str} {v u : Value} {us : List Value} {kw : List (Str × Value)} (h : ArgsOf f g v u [] ⟨us, kw⟩) : us.length ≤ sizeLine := by
  cases h
  · exact two_len v u
  · exact Nat.le_trans (Nat.le_succ _) (two_len v u)
  · exact Nat.zero_le _
  · exact Nat.zero_le _
theorem ArgsOf.self {f g : Str} {v u : Value} {us : List Value} {kw : List (Str × Value)} (h : ArgsOf f g v u [] ⟨us, kw⟩) (x : Value) : ArgsOf f g v u [x] ⟨x :: us, kw⟩ := by
  cases h
  · exact .pos
  · exact .mix
  · exact .kws
  · exact .rev
def Bnd2 (fd : FuncData) (f g : Str) : Prop := (∀ (a b c : Value), bindArgs fd ⟨[a, b, c], []⟩ = pure [(("self" : Str), a), (f, b), (g, c)]) ∧ (∀ (a b c : Value), bindArgs fd ⟨[a, b], [(g, c)]⟩ = pure [(("self" : Str), a), (f, b), (g, c)]) ∧
  (∀ (a b c : Value), bindArgs fd ⟨[a], [(f, b), (g, c)]⟩ = pure [(("self" : Str), a), (f, b), (g, c)]) ∧ (∀ (a b c : Value), bindArgs fd ⟨[a], [(g, c), (f, b)]⟩ = pure [(("self" : Str), a), (f, b), (g, c)])
theorem Bnd2.of {fd : FuncData} {f g : Str} {v u x : Value} {ar : Args} (h : Bnd2 fd f g) (har : ArgsOf f g v u [x] ar) : bindArgs fd ar = pure [(("self" : Str), x), (f, v), (g, u)] := by
  cases har
  · exact h.1 _ _ _
  · exact h.2.1 _ _ _
  · exact h.2.2.1 _ _ _
  · exact h.2.2.2 _ _ _
/-- what the written part says of the class x, at C, of its field f, and of its __init__, at fI -/
structure ErrTxt (P : Program) (K : Frag) (mg : Str → Option Value) (x f g : Str) (C fI : Addr) : Prop where
  gC : mg x = some (.ref C)
  cls : ∃ nm q N bs bm sn sub ab col dd k0 k1 k2 k3 k5, K.lookup C = some (excClassObj nm q C N bs bm true sn sub ab col dd k0 k1 k2 k3 k5 "ValueError.__new__") ∧ refsVE bm = true
  sa : findIn K (.ref C) "__setattr__" = some (some (.builtin "object.__setattr__"))
  ga : findIn K (.ref C) "__getattribute__" = some (some (.builtin "BaseException.__getattribute__"))
  gg : findIn K (.ref C) "__getattr__" = some none
  noN : findIn K (.ref C) f = some none
  noM : findIn K (.ref C) g = some none
  iC : findIn K (.ref C) "__init__" = some (some (.ref fI))
  tC : typeIn K (.ref fI) = some (.type "function")
  kC : keepIn K (.ref C) = true
  exC : subIn K (.ref C) (.type "BaseException") = some true
  veC : subIn K (.ref C) (.type "ValueError") = some true
  tyC : typeIn K (.ref C) = some (.type "type")
  hdC : hasDictIn K C = true
  sup : ks_superIn K C C "__init__" = some (some (.builtin "ValueError.__init__"))
  slf : mroIn K C (.ref C) = some true
  opq : nsIn K cStatics "thirdparty.any" = some none
  gS : mg "super" = none
  htop : (P.main.scope.names.lookup ("super" : Str)).isSome = false
  fself : (f == ("self" : Str)) = false
  fdb : (f == ("__debug__" : Str)) = false
  gself : (g == ("self" : Str)) = false
  gdb : (g == ("__debug__" : Str)) = false
  gf : (g == f) = false
  ks : (iS f g).names.lookup ("super" : Str) = some .globalImplicit
  kc : (iS f g).names.lookup ("__class__" : Str) = some .free
  fn : ∃ (oc : Value) (od : Option Addr) (doc pm : Value) (an : Option Addr) (cda cc : Addr) (ct : Value) (osl : Array (Option Value)) (qual : Str) (p1 p2 p3 a1 a2 a3 a4 a7 a5 a6 b1 b2 b3 b4 c1 c2 c3 c4 : Pos) (ccl : Value) (cdd : Option Addr) (vs : Array Value) (ccs : Array (Option Value)) (file : Str) (tf : Tok)
      (cl : Value) (cld : Option Addr) (csl : Array (Option Value)),
    K.lookup fI = some ⟨oc, od, .func (ksFn "__init__" qual (iA f g p1 p2 p3) (iB f g a1 a2 a3 a4 a7 a5 a6 b1 b2 b3 b4 c1 c2 c3 c4) (iS f g) .none .none doc pm an (.ref cda) ct cc), osl⟩ ∧ codeIn K (.ref cda) qual = true ∧
    K.lookup cda = some ⟨ccl, cdd, .fields vs, ccs⟩ ∧ vs[2]? = some (.str file tf) ∧ ((P.main.file : Str) == file) = true ∧ K.lookup cc = some ⟨cl, cld, .cell (some (.ref C)), csl⟩ ∧
    Bnd2 (ksFn "__init__" qual (iA f g p1 p2 p3) (iB f g a1 a2 a3 a4 a7 a5 a6 b1 b2 b3 b4 c1 c2 c3 c4) (iS f g) .none .none doc pm an (.ref cda) ct cc) f g ∧
    (∀ env : Env, env.scope = iS f g → ∃ pl, eval (.Call (.Attribute (.Call (.Name "super" a1) [] [] a2) "__init__" a3) [.Name f a4, .Name g a7] [] a5) env = (do
      let ov ← attributeBase (.Call (.Name "super" a1) [] [] a2) "__init__" env (eval (.Call (.Name "super" a1) [] [] a2) env)
      standAt a3.atName
      let (gg, first) ← holding [ov] (getMethod ov "__init__" pl)
      callWith a5 gg first (backTo a5 (starEach [.Name f a4, .Name g a7] env)) []))
/-- what __init__ leaves of a fresh exception at x -/
structure InitEnd (h h' : Heap) (x C dx t1 : Addr) (f g : Str) (v u : Value) : Prop where
  keep : ∀ b o, b ≠ x → h.get? b = some o → h'.get? b = some o
  obj : h'.get? x = some { cls := .ref C, dict := some dx, data := .fields #[.ref t1, .none, .none, .none, .bool false, .none] }
  dbig : h.objs.size ≤ dx
  dne : dx ≠ x
  ns : h'.Ns1 dx (fun y => if y = g then some u else if y = f then some v else none)
/-- a made one -/
structure OwnMade (h h' : Heap) (e C d : Addr) (f g : Str) (v u : Value) : Prop where
  keep : ∀ b o, h.get? b = some o → h'.get? b = some o
  new : h.objs.size ≤ e
  obj : ∃ oe vs, h'.get? e = some oe ∧ oe.cls = .ref C ∧ oe.dict = some d ∧ oe.data = .fields vs ∧ vs[1]? = some .none
  dbig : h.objs.size ≤ d
  dne : d ≠ e
  ns : h'.Ns1 d (fun y => if y = g then some u else if y = f then some v else none)
section
variable {prog : Program} {w : World} {A : Around} {E : Value → Shared → Prop} {R : Result → Shared → Prop} {s : Shared} {K : Frag} {mg : Str → Option Value} {f g x : Str} {C fI : Addr} {base : Heap}
theorem two_size (v u : Value) : [v, u].length ≤ sizeLine := by
  rw [sizeLine_eq]
  exact (by decide : 2 ≤ 16777216)
theorem err_init (T : ErrTxt prog K mg x f g C fI) (Md : L2.Mod K mg base) (bk : ∀ b o, base.get? b = some o → s.heap.get? b = some o) {x t0 : Addr} {v u : Value} (X : K.In s.heap) (hlim : s.heap.NoLimit) (hx : s.heap.get? x = some (excO C t0)) (hnx : K.lookup x = none) (hroom : A.depth < recursionLimit)
    {ar : Args} (har : ArgsOf f g v u [.ref x] ar) (hq : ∀ h' tk dx t1, InitEnd s.heap h' x C dx t1 f g v u → R (.ok (.ret .none)) { s with heap := h', toks := tk }) :
    codeAny (model prog w) A (.call (.ref fI) ar) R s := by
  obtain ⟨oc, od, doc, pm, an, cda, cc, ct, osl, qual, p1, p2, p3, a1, a2, a3, a4, a7, a5, a6, b1, b2, b3, b4, c1, c2, c3, c4, ccl, cdd, vs, ccs, file, tf, cl, cld, csl, ho, hcd, hcode, hvs, hfile, hcell, hbnd, hev⟩ := T.fn
  obtain ⟨nm, q, N, bs, bm, sn, sub, ab, col, dd, k0, k1, k2, k3, k5, hC, hbm⟩ := T.cls
  have hcl : clsIn K C = some { name := nm, bases := bs, mro := .ref C :: bm, ns := N, qualname := q, hasDict := true, slotNames := sn, subclasses := sub, abstract := ab, collection := col, hasDel := false } := by unfold clsIn; rw [hC] <;> rfl
  have fs := T.fself
  have sf : (("self" : Str) == f) = false := by
    cases e : (("self" : Str) == f) with
    | false => rfl
    | true =>
      rw [eq_of_beq e] at fs
      simp at fs
  have gs := T.gself
  have sg : (("self" : Str) == g) = false := by
    cases e : (("self" : Str) == g) with
    | false => rfl
    | true =>
      rw [eq_of_beq e] at gs
      simp at gs
  have gf := T.gf
  have fg : (f == g) = false := by
    cases e : (f == g) with
    | false => rfl
    | true =>
      rw [eq_of_beq e] at gf
      simp at gf
  have kself : (iS f g).names.lookup ("self" : Str) = some .local := rfl
  have kf : (iS f g).names.lookup f = some .local := by
    show List.lookup f [(PySem.Str.ofString "self", NameKind.local), (f, NameKind.local), (g, NameKind.local), (PySem.Str.ofString "__class__", NameKind.free), (PySem.Str.ofString "super", NameKind.globalImplicit)] = _
    have : (f == PySem.Str.ofString "self") = false := fs
    simp [List.lookup, this]
  have kg : (iS f g).names.lookup g = some .local := by
    show List.lookup g [(PySem.Str.ofString "self", NameKind.local), (f, NameKind.local), (g, NameKind.local), (PySem.Str.ofString "__class__", NameKind.free), (PySem.Str.ofString "super", NameKind.globalImplicit)] = _
    have : (g == PySem.Str.ofString "self") = false := gs
    simp [List.lookup, this, gf]
  have mself : (([(("self" : Str), .ref x), (f, v), (g, u)] : List (Str × Value)).reverse.lookup ("self" : Str)) = some (.ref x) := by
    simp [List.lookup, sf, sg]
  have mf : (([(("self" : Str), .ref x), (f, v), (g, u)] : List (Str × Value)).reverse.lookup f) = some v := by
    simp [List.lookup, fg]
  have mg' : (([(("self" : Str), .ref x), (f, v), (g, u)] : List (Str × Value)).reverse.lookup g) = some u := by
    simp [List.lookup]
  refine ks_codeAny_call_defAt (fd := ksFn "__init__" qual (iA f g p1 p2 p3) (iB f g a1 a2 a3 a4 a7 a5 a6 b1 b2 b3 b4 c1 c2 c3 c4) (iS f g) .none .none doc pm an (.ref cda) ct cc) (binds := [(("self" : Str), .ref x), (f, v), (g, u)]) hroom (X _ _ ho) rfl hlim (codeRec_of X hcd) rfl (BindsTo.of_eq (hbnd.of har)) ?hcell ?hloc (fun h₁ hns hk₁ => ?_) rfl rfl rfl
  case hcell =>
    intro y hy
    simp only [iS, List.mem_cons, List.not_mem_nil, or_false] at hy
    rcases hy with rfl | rfl | rfl | rfl | rfl <;> exact fun z => nomatch z
  case hloc =>
    intro y hy
    simp only [List.mem_cons, List.not_mem_nil, or_false] at hy
    rcases hy with rfl | rfl | rfl
    · exact kself
    · exact kf
    · exact kg
  have hxL : s.heap.objs.size ≠ x := Nat.ne_of_gt (Heap.lt_size hx)
  have X₁ : K.In h₁ := X.keeps hk₁
  have hx₁ := hk₁ _ _ hx
  have I₁ : InstAt h₁ x (excO C t0) C none := ⟨hx₁, rfl, rfl, trivial⟩
  obtain ⟨mb, hb1, hb2⟩ := Md.blt
  have bk₁ : ∀ b o, base.get? b = some o → h₁.get? b = some o := fun b o e => hk₁ b o (bk b o e)
  obtain ⟨oD, hD1, hD2⟩ : ∃ oD, h₁.get? C = some oD ∧ ∃ cd, oD.data = .cls cd := ⟨_, X₁ _ _ hC, _, rfl⟩
  obtain ⟨cdD, hD2⟩ := hD2
  obtain ⟨pl, hev⟩ := hev (callEnv (ksFn "__init__" qual (iA f g p1 p2 p3) (iB f g a1 a2 a3 a4 a7 a5 a6 b1 b2 b3 b4 c1 c2 c3 c4) (iS f g) .none .none doc pm an (.ref cda) ct cc) s.heap.objs.size fI) rfl
  refine ks_wpAt_execs_cons (ks_wpAt_Expr_any (ks_wpAt_MethodCall (pl := pl) ?_ hev))
  refine ks_wpAt_super_base (fd := ksFn "__init__" qual (iA f g p1 p2 p3) (iB f g a1 a2 a3 a4 a7 a5 a6 b1 b2 b3 b4 c1 c2 c3 c4) (iS f g) .none .none doc pm an (.ref cda) ct cc) T.ks T.kc (by decide) rfl (X₁ _ _ ho) rfl (ar := { arg := "self", annotation := none, pos := p1 }) rfl (cc := cda) rfl (X₁ _ _ hcode) rfl hvs hfile T.htop ?_
  refine ks_loadName_global rfl T.ks (loadGlobal_builtin (Md.glob.keeps bk₁) T.gS (hb1.keeps bk₁) ((hb2 "super" (by decide)).trans (by decide +kernel : bootBuiltins "super" = some (.type "super"))) ⟨rfl, ?_⟩)
  refine wpAny_loadName_free rfl T.kc (c := cc) (v := .ref C) rfl ⟨_, X₁ _ _ hcell, rfl⟩ ?_
  refine wpAny_loadName_local rfl rfl hns mself ?_
  refine ks_wpAny_isType_cls hD1 hD2 ⟨rfl, ?_⟩
  refine ks_wpAny_call_super hD1 hD2 I₁.at_ I₁.cls (fun c e => nomatch e) (looks_mroIn X₁ T.slf) (fun h₂ hso hk₂ => ?_)
  have X₂ : K.In h₂ := X₁.keeps hk₂
  have hx₂ := hk₂ _ _ hx₁
  have I₂ : InstAt h₂ x (excO C t0) C none := ⟨hx₂, rfl, rfl, trivial⟩
  have hI : Looks (model prog w) h₂ (isInstance (.ref x) (.type "ValueError")) true := I₂.type.andThen (looks_subIn X₂ T.veC)
  have hs := T.sup
  unfold ks_superIn at hs
  rw [hcl] at hs
  refine kxs_getMethod kxs_ValueError hso (looks_opaque X₂ T.opq) (l₀ := .ref C :: bm) (fun A Q E s k q => wpAny_bind ((looks_clsIn X₂ hcl) A _ E s k (wpAny_pure q))) rfl X₂ hs hI (ks_ne X₂ I₂ hcl) (by decide) ?_
  have hk₃ : ∀ b o, h₂.get? b = some o → (h₂.push (kxs_mw "ValueError.__init__" x)).get? b = some o := fun b o e => Heap.get?_push_of_some _ e
  have hu : (h₂.push (kxs_mw "ValueError.__init__" x)).get? h₂.objs.size = some (kxs_mw "ValueError.__init__" x) := Heap.get?_push_at rfl rfl
  have hns₃ := (hns.keeps hk₂).keeps hk₃
  refine kxs_callWith (i := "ValueError.__init__") (x := x) rfl (evalArgs_plain (Calls.spliced_cons ?_))
  rw [if_neg (by decide : ¬ (false = true))]
  have k0 : (callEnv (ksFn "__init__" qual (iA f g p1 p2 p3) (iB f g a1 a2 a3 a4 a7 a5 a6 b1 b2 b3 b4 c1 c2 c3 c4) (iS f g) .none .none doc pm an (.ref cda) ct cc) s.heap.objs.size fI).kindOf "self" = some .local := kself
  have k1 : (callEnv (ksFn "__init__" qual (iA f g p1 p2 p3) (iB f g a1 a2 a3 a4 a7 a5 a6 b1 b2 b3 b4 c1 c2 c3 c4) (iS f g) .none .none doc pm an (.ref cda) ct cc) s.heap.objs.size fI).kindOf f = some .local := kf
  have k7 : (callEnv (ksFn "__init__" qual (iA f g p1 p2 p3) (iB f g a1 a2 a3 a4 a7 a5 a6 b1 b2 b3 b4 c1 c2 c3 c4) (iS f g) .none .none doc pm an (.ref cda) ct cc) s.heap.objs.size fI).kindOf g = some .local := kg
  have k2 : (callEnv (ksFn "__init__" qual (iA f g p1 p2 p3) (iB f g a1 a2 a3 a4 a7 a5 a6 b1 b2 b3 b4 c1 c2 c3 c4) (iS f g) .none .none doc pm an (.ref cda) ct cc) s.heap.objs.size fI).scope.kind = .function := rfl
  have m0 : (fun y => ([("self", .ref x), (f, v), (g, u)] : List (Str × Value)).reverse.lookup y) "self" = some (.ref x) := mself
  have m1 : (fun y => ([("self", .ref x), (f, v), (g, u)] : List (Str × Value)).reverse.lookup y) f = some v := mf
  have m7 : (fun y => ([("self", .ref x), (f, v), (g, u)] : List (Str × Value)).reverse.lookup y) g = some u := mg'
  have n3 : (h₂.push (kxs_mw "ValueError.__init__" x)).Ns (callEnv (ksFn "__init__" qual (iA f g p1 p2 p3) (iB f g a1 a2 a3 a4 a7 a5 a6 b1 b2 b3 b4 c1 c2 c3 c4) (iS f g) .none .none doc pm an (.ref cda) ct cc) s.heap.objs.size fI).locals (fun y => ([("self", .ref x), (f, v), (g, u)] : List (Str × Value)).reverse.lookup y) := hns₃
  refine ldC (env := (callEnv (ksFn "__init__" qual (iA f g p1 p2 p3) (iB f g a1 a2 a3 a4 a7 a5 a6 b1 b2 b3 b4 c1 c2 c3 c4) (iS f g) .none .none doc pm an (.ref cda) ct cc) s.heap.objs.size fI)) (m := (fun y => ([("self", .ref x), (f, v), (g, u)] : List (Str × Value)).reverse.lookup y)) (v := v) n3 m1 ?_ k2 k1 T.fdb
  refine Calls.spliced_cons ?_
  rw [if_neg (by decide : ¬ (false = true))]
  refine ldC (env := (callEnv (ksFn "__init__" qual (iA f g p1 p2 p3) (iB f g a1 a2 a3 a4 a7 a5 a6 b1 b2 b3 b4 c1 c2 c3 c4) (iS f g) .none .none doc pm an (.ref cda) ct cc) s.heap.objs.size fI)) (m := (fun y => ([("self", .ref x), (f, v), (g, u)] : List (Str × Value)).reverse.lookup y)) (v := u) n3 m7 ?_ k2 k7 T.gdb
  refine Calls.spliced_nil ⟨hu, ?_⟩
  refine call_mw (K := K) (hk₃ _ _ (X₂ _ _ hC)) (hk₃ _ _ hx₂) hu (two_size v u) (fun h₄ hk₄ hx₄ => ?_)
  have hk14 : ∀ b o, b ≠ x → h₁.get? b = some o → h₄.get? b = some o := fun b o hb e => hk₄ b o hb (hk₃ _ _ (hk₂ _ _ e))
  have X₄ : K.In h₄ := fun a o e => hk14 a o (fun z => by rw [z, hnx] at e; cases e) (X₁ _ _ e)
  have hns₄ : h₄.Ns s.heap.objs.size (fun y => ([("self", .ref x), (f, v), (g, u)] : List (Str × Value)).reverse.lookup y) := by
    obtain ⟨oL, es, ep, hL, r⟩ := hns
    exact ⟨oL, es, ep, hk14 _ _ hxL hL, r⟩
  show wpAt _ _ _ (execs _ _) _ _ _
  refine wpAt_of_wpAny (wpAny_execs_cons (plainObj_wpAny_Assign_Attribute ?_))
  have n4 : h₄.Ns (callEnv (ksFn "__init__" qual (iA f g p1 p2 p3) (iB f g a1 a2 a3 a4 a7 a5 a6 b1 b2 b3 b4 c1 c2 c3 c4) (iS f g) .none .none doc pm an (.ref cda) ct cc) s.heap.objs.size fI).locals (fun y => ([("self", .ref x), (f, v), (g, u)] : List (Str × Value)).reverse.lookup y) := hns₄
  refine ldC (env := (callEnv (ksFn "__init__" qual (iA f g p1 p2 p3) (iB f g a1 a2 a3 a4 a7 a5 a6 b1 b2 b3 b4 c1 c2 c3 c4) (iS f g) .none .none doc pm an (.ref cda) ct cc) s.heap.objs.size fI)) (m := (fun y => ([("self", .ref x), (f, v), (g, u)] : List (Str × Value)).reverse.lookup y)) (v := v) n4 m1 ?_ k2 k1 T.fdb
  refine ldC (env := (callEnv (ksFn "__init__" qual (iA f g p1 p2 p3) (iB f g a1 a2 a3 a4 a7 a5 a6 b1 b2 b3 b4 c1 c2 c3 c4) (iS f g) .none .none doc pm an (.ref cda) ct cc) s.heap.objs.size fI)) (m := (fun y => ([("self", .ref x), (f, v), (g, u)] : List (Str × Value)).reverse.lookup y)) (v := .ref x) n4 m0 ?_ k2 k0 (by decide)
  refine set_plain X₄ (ox := _) (od := none) ⟨hx₄, rfl, rfl, trivial⟩ T.sa ?_
  refine exc_osa X₄ hx₄ hcl (show refsVE (.ref C :: bm) = true from hbm) rfl T.noN (fun h₅ tk₅ dx k₅ dn dne hx₅ hn₅ => ?_)
  have z : s.heap.objs.size ≤ h₄.objs.size := by
    obtain ⟨oL, es, ep, hL, r⟩ := hns₄
    exact Nat.le_of_lt (Heap.lt_size hL)
  have X₅ : K.In h₅ := fun a o e => k₅ a o (fun z => by rw [z, hnx] at e; cases e) (X₄ _ _ e)
  have hns₅ : h₅.Ns s.heap.objs.size (fun y => ([("self", .ref x), (f, v), (g, u)] : List (Str × Value)).reverse.lookup y) := by
    obtain ⟨oL, es, ep, hL, r⟩ := hns₄
    exact ⟨oL, es, ep, k₅ _ _ hxL hL, r⟩
  have wi : Within (fun y => if y = f then some v else (none : Option Value)) [f] := fun y hy => by
    by_cases q : y = f
    · rw [q]; exact List.mem_cons_self
    · simp [q] at hy
  obtain ⟨oD5, esD5, epD5, hoD5, hdD5, _⟩ := hn₅.count wi
  have nd : ∀ b o, s.heap.get? b = some o → b ≠ dx := fun b o e q => by
    have z1 : s.heap.objs.size ≤ dx := Nat.le_trans z dn
    exact absurd (Heap.lt_size e) (by rw [q]; exact Nat.not_lt.mpr z1)
  show wpAny _ _ (execs _ _) _ _ _
  refine wpAny_execs_cons (plainObj_wpAny_Assign_Attribute ?_)
  have n5 : h₅.Ns (callEnv (ksFn "__init__" qual (iA f g p1 p2 p3) (iB f g a1 a2 a3 a4 a7 a5 a6 b1 b2 b3 b4 c1 c2 c3 c4) (iS f g) .none .none doc pm an (.ref cda) ct cc) s.heap.objs.size fI).locals (fun y => ([("self", .ref x), (f, v), (g, u)] : List (Str × Value)).reverse.lookup y) := hns₅
  refine ldC (env := (callEnv (ksFn "__init__" qual (iA f g p1 p2 p3) (iB f g a1 a2 a3 a4 a7 a5 a6 b1 b2 b3 b4 c1 c2 c3 c4) (iS f g) .none .none doc pm an (.ref cda) ct cc) s.heap.objs.size fI)) (m := (fun y => ([("self", .ref x), (f, v), (g, u)] : List (Str × Value)).reverse.lookup y)) (v := u) n5 m7 ?_ k2 k7 T.gdb
  refine ldC (env := (callEnv (ksFn "__init__" qual (iA f g p1 p2 p3) (iB f g a1 a2 a3 a4 a7 a5 a6 b1 b2 b3 b4 c1 c2 c3 c4) (iS f g) .none .none doc pm an (.ref cda) ct cc) s.heap.objs.size fI)) (m := (fun y => ([("self", .ref x), (f, v), (g, u)] : List (Str × Value)).reverse.lookup y)) (v := .ref x) n5 m0 ?_ k2 k0 (by decide)
  refine set_plain X₅ (ox := _) (od := some oD5) ⟨hx₅, rfl, rfl, hoD5⟩ T.sa ?_
  refine PySem.OEX.osa_old X₅ hx₅ hn₅ wi (by simp) hcl (show refsVE (.ref C :: bm) = true from hbm) rfl T.noM (fun h₆ tk₆ k₆ hn₆ => ?_)
  show wpAny _ _ (execs _ _) _ _ _
  exact wpAny_execs_nil (hq h₆ tk₆ dx _ ⟨fun b o hb e => k₆ b o (nd b o e) (k₅ b o hb (hk14 b o hb (hk₁ b o e))), k₆ _ _ (Ne.symm dne) hx₅, Nat.le_trans z dn, dne, hn₆⟩)
theorem err_made (T : ErrTxt prog K mg x f g C fI) (Md : L2.Mod K mg base) (bk : ∀ b o, base.get? b = some o → s.heap.get? b = some o) {v u : Value} (X : K.In s.heap) (hlim : s.heap.NoLimit) (hroom : A.depth + 1 < recursionLimit)
    {us : List Value} {kw : List (Str × Value)} (har : ArgsOf f g v u [] ⟨us, kw⟩) (hq : ∀ h' tk e d, OwnMade s.heap h' e C d f g v u → R (.ok (.ret (.ref e))) { s with heap := h', toks := tk }) :
    codeAny (model prog w) A (.call (.ref C) ⟨us, kw⟩) R s := by
  obtain ⟨nm, q, N, bs, bm, sn, sub, ab, col, dd, k0, k1, k2, k3, k5, hC, hbm⟩ := T.cls
  obtain ⟨hp, gg, dr, tk, os⟩ := s
  have k : ∀ b o, hp.get? b = some o → ((hp.push (kdv_tup us)).push (excO C hp.objs.size)).get? b = some o := fun b o e => Heap.get?_push_of_some _ (Heap.get?_push_of_some _ e)
  have hget : ((hp.push (kdv_tup us)).push (excO C hp.objs.size)).get? (hp.objs.size + 1) = some (excO C hp.objs.size) := by heap_get
  have hnx : K.lookup (hp.objs.size + 1) = none := by
    cases e : K.lookup (hp.objs.size + 1) with
    | none => rfl
    | some o =>
      have z : hp.get? (hp.objs.size + 1) = some o := X _ _ e
      exact absurd (Nat.lt_of_succ_lt (Heap.lt_size z)) (Nat.lt_irrefl _)
  refine EK.call_kw F.excBase_ValueError (fun X => refsVE_contains X bm hbm) (X _ _ hC) (looks_findIn X T.iC) (fun self => bind_fn X self T.tC) har.size ?_
  refine err_init (s := ⟨(hp.push (kdv_tup us)).push (excO C hp.objs.size), gg, dr, tk, os⟩) T Md (fun b o e => k b o (bk b o e)) (X.keeps k) (hlim.keeps k) hget hnx ?_ (har.self _) fun h' tk' dx t1 ⟨k', hx, dn, dne, hns⟩ => ?_
  · show A.depth + 1 < recursionLimit
    exact hroom
  · have old : ∀ b o, hp.get? b = some o → h'.get? b = some o := fun b o e => k' b o (Nat.ne_of_lt (Nat.lt_succ_of_lt (Heap.lt_size e))) (k b o e)
    have z : hp.objs.size + 1 + 1 ≤ dx := by
      first
        | (simpa only [Heap.size_push] using dn)
        | exact dn
        | (have q := dn; rw [Heap.size_push, Heap.size_push] at q; exact q)
    exact ⟨rfl, hq h' tk' (hp.objs.size + 1) dx ⟨old, Nat.le_succ _, ⟨_, _, hx, rfl, rfl, rfl, rfl⟩, Nat.le_trans (Nat.le_trans (Nat.le_succ _) (Nat.le_succ _)) z, dne, hns⟩⟩
end
end EY
end PySem
namespace L2
open PySem PySem.Spec PyProof.Rows
theorem relO_err2 {f g : Str} {v u : V} {v' u' : Value} (r : RelV v v') (r2 : RelV u u') (hgf : (g == f) = false) (y : Str) : RelO (List.lookup y [(f, v), (g, u)]) (if y = g then some u' else if y = f then some v' else none) := by
  by_cases h1 : y = g
  · subst h1
    rw [if_pos rfl, show List.lookup y [(f, v), (y, u)] = some u by simp [List.lookup, hgf]]
    exact r2
  · rw [if_neg h1]
    by_cases h2 : y = f
    · subst h2
      rw [if_pos rfl, show List.lookup y [(y, v), (g, u)] = some v by simp [List.lookup]]
      exact r
    · have q1 : (y == g) = false := by simpa using h1
      have q2 : (y == f) = false := by simpa using h2
      rw [if_neg h2, show List.lookup y [(f, v), (g, u)] = none by simp [List.lookup, q1, q2]]
      trivial
section
variable {X : Cx} {C fI : Addr} {x f g : Str}
/-- x(e) -/
def tMkErr2 (f g : Str) (C : Addr) (ta : TA) : St → Hp → XK → Prop := fun σ H Q => ta σ H fun vs H1 => ∃ v u, vs = [v, u] ∧ ∀ d, H1 d = none → Q (.ref C) (some d) (upd H1 d (.xd [(f, v), (g, u)]))
theorem pmk_err2 {a b : Expr} {ta : TA} {p pos : Pos} {k : Nat} (T : PySem.EY.ErrTxt X.prog X.K X.mg x f g C fI) (hr : Room k X.A) (ha : PA X [a, b] ta) (hg : Gl X x) (hdb : (x == ("__debug__" : Str)) = false)
    (he : starEach (a :: [b]) X.env = (false, eval a X.env) :: starEach [b] X.env := by exact DL.starEach_cons rfl) (hpl : (backTo pos (starEach [b] X.env)).any (·.1) = false := by rfl) :
    PMk X (.Call (.Name x p) [a, b] [] pos) (tMkErr2 f g C ta) := by
  intro pins s σ H Q I h
  refine wpAny_Call_Name_kw (ld_glob I hg T.gC ?_ hdb)
  refine PySem.W.callWith_K (h₀ := X.base) I.ok.mod.kin T.kC (thn (ha.run pos pins s σ H _ I h) fun us s1 hh => ?_) he hpl
  obtain ⟨vs, H1, I1, r1, v, u, ev, q1⟩ := hh
  subst ev
  refine ⟨I1.kIn, ?_⟩
  cases r1 with
  | cons rv rn =>
    rename_i v' us'
    cases rn with
    | cons ru rn =>
    rename_i u' us'
    cases rn
    show wpAny _ _ (call (.ref C) [v', u']) _ _ _
    have hlim := I1.nolimit
    have bk1 := I1.bk
    obtain ⟨hp, gs, dr, tk, os⟩ := s1
    refine wpAny_call (PySem.EY.err_made T I1.ok.mod bk1 I1.kIn hlim (by have := hr.dp; omega) .pos fun h' tk' e d M => ?_)
    show MkP X pins σ Q (.ref e) ⟨h', gs, dr, tk', os⟩
    obtain ⟨oe, fv, hoe, hc, hd, hdat, h1⟩ := M.obj
    have hns := M.ns
    obtain ⟨G', g1, g2⟩ := restrict h' fun b => decide (b ≠ e)
    have gk : ∀ b, b ≠ e → G'.get? b = h'.get? b := fun b hb => g1 b (decide_eq_true hb)
    have ge : G'.get? e = none := g2 e (by simp)
    have old : ∀ b o, hp.get? b = some o → G'.get? b = some o := fun b o q => (gk b (Nat.ne_of_lt (Nat.lt_of_lt_of_le (Heap.lt_size q) M.new))).trans (M.keep b o q)
    have ob : ObjOk X.prog X.w (upd H1 d (.xd [(f, v), (g, u)])) G' d (.xd [(f, v), (g, u)]) :=
      ⟨_, hns.at (fun o q => (gk d M.dne).trans q), fun y => relO_err2 rv ru T.gf y⟩
    have J : Inv X pins σ (upd H1 d (.xd [(f, v), (g, u)])) ⟨G', gs, dr, tk', os⟩ := I1.laid (t' := tk') old M.dbig ob
    refine ⟨e, oe, fv, ⟨G', gs, dr, tk', os⟩, _, .ref C, some d, rfl, J, fun b o q => ?_, ge, hoe, ⟨hc, hd⟩, hdat, h1, ?_, rfl, I1.bare, raises_own T.exC T.tyC, q1 d (I1.hok.fresh M.dbig)⟩
    · by_cases hb : b = e
      · have q' : G'.get? b = some o := q
        rw [hb, ge] at q'; cases q'
      · exact (gk b hb).symm.trans q
    · rw [upd_ne (Ne.symm M.dne)]
      exact I1.hok.fresh M.new
/-- raise x(e) -/
def tRaiseErr2 (f g : Str) (C : Addr) (W : WX) (ta : TA) : TS := fun _ σ H => tMkErr2 f g C ta σ H fun cls d H' => W cls d σ H'
theorem ps_raiseErr2 {a b : Expr} {ta : TA} {W : WX} {p pos pos2 : Pos} {k : Nat} (hc : X.calm = true) (T : PySem.EY.ErrTxt X.prog X.K X.mg x f g C fI) (hr : Room k X.A) (tk : Takes X W) (ha : PA X [a, b] ta) (hg : Gl X x) (hdb : (x == ("__debug__" : Str)) = false)
    (he : starEach (a :: [b]) X.env = (false, eval a X.env) :: starEach [b] X.env := by exact DL.starEach_cons rfl) (hpl : (backTo pos (starEach [b] X.env)).any (·.1) = false := by rfl) :
    PS X (.Raise (some (.Call (.Name x p) [a, b] [] pos)) none pos2) (tRaiseErr2 f g C W ta) := ps_raise hc tk (pmk_err2 T hr ha hg hdb he hpl)
end
end L2
namespace DL
open PySem PySem.Spec PyProof.Rows L2
section
variable {X : Cx} {M : LK} {W : WX} {C fI : Addr} {x f g : Str}
/-- raise x(e, e'), x an own error of two fields -/
def dRaise2 (C : Addr) (f g : Str) (fa : DTA) : DTS := fun k δ n => fa δ n (fun xs n1 => xs.length = 2 ∧ k.ex δ C [f, g] xs n1) k.ex
theorem ds_raise2 {st : Stmt} {fa : DTA} (h : PS X st (tRaiseErr2 f g C W (liftA M W fa))) : PS X st (liftS M W (dRaise2 C f g fa)) :=
  PSw h fun D₀ σ H ⟨pn, G, n, δ, k, R, hf, s⟩ => by
    refine ⟨pn, G, n, δ, _, k.ex, R, hf, fun G1 vs ds n1 H1 A1 R1 i1 h1 => ?_, s.xe⟩
    obtain ⟨hl, h1⟩ := h1
    match ds, hl with
    | [d, d2], _ =>
      obtain ⟨v, u, rfl, iv, iu⟩ := i1.two
      refine ⟨v, u, rfl, fun a ha => ?_⟩
      obtain ⟨R2, A2⟩ := R1.lay (o := .xd [(f, v), (g, u)]) ha notTbl_xd
      exact s.ex _ σ δ C (some a) [f, g] [d, d2] n1 _ (R.tr A1 A2) R2 ⟨[(f, v), (g, u)], upd_same, rfl, by simp only [List.map, IsL]; exact ⟨Is.up A2.ge d v iv, Is.up A2.ge d2 u iu, trivial⟩⟩ h1
end
end DL

set_option Elab.async false
set_option linter.all false
set_option maxRecDepth 100000
set_option maxHeartbeats 4000000
set_option autoImplicit false
/-! Own classes: made, read, compared; what is raised is wished for at the caller's slots. -/
namespace OB
open PySem PySem.Spec PyProof.Rows L2
def noE : XK := fun _ _ _ => False
section
variable {X : Cx} {k n : Nat} {f C : Addr} {fd : FuncData} {ps ks : List Str} {sp : Sp} {E : XK} {pins : List (Addr × Obj)} {σ : L2.St} {H : Hp} {s : Shared}
theorem passNo : PassesAt (L2.CX X.prog X.w) X σ noE := fun pins H s e s' I c => by
  obtain ⟨_, _, _, _, _, _, _, _, _, _, _, _, h⟩ := c
  exact h.elim
/-- the def at f runs somewhere below -/
theorem below {A : Around} {Q : VK} {us : List Value} {vs : List V} (F : FnOk X.prog X.w X.K X.mg X.base (L2.CX X.prog X.w) k f fd ps sp) (b : Binds X.K fd ps []) (hr : Room k A) (hf : A.frames = X.A.frames) (hx : PassesAt (L2.CX X.prog X.w) X σ E) (I : Inv X pins σ H s) (r : Vals vs us)
    (h : sp vs H Q E) : wpAny (model X.prog X.w) A (call (.ref f) us) (EP X pins σ Q) X.xe s := by
  have l := F.len _ _ _ _ h
  have e1 := I.env0
  have e0 : Env0 X.prog X.w X.K X.mg X.base A X.stack s H := ⟨hf.trans e1.frames, e1.mod, e1.bs, e1.bsz, e1.funs, e1.frf, e1.hok, e1.bare⟩
  have bt : BindsTo s fd ⟨us, []⟩ (ps.zip us) := by
    have z := b s us I.kIn (by rw [List.append_nil, ← r.length]; exact l)
    rw [List.append_nil] at z
    exact z
  refine wpAny_call (codeAny_mono (F.run A X.stack s H ⟨us, []⟩ us vs Q E hr e0 bt r h) fun t s' q => ?_)
  match t, q with
  | .error e, q => exact hx pins H s e s' I q
  | .ok (.ret u), q => exact I.after q
  | .ok .next, q => exact q.elim
  | .ok .brk, q => exact q.elim
  | .ok .cont, q => exact q.elim
/-- an instance is made, its __init__ runs -/
theorem made {Q : VK} {us ws : List Value} {vs zs : List V} {g : List Value → List Value → List Value} {gV : List V → List V → List V} (M : Mk X.K C f) (F : FnOk X.prog X.w X.K X.mg X.base (L2.CX X.prog X.w) k f fd ps sp) (hr : Room (k + 1) X.A) (b : KBn X.K fd ps (n + 1) ks g gV) (hx : PassesAt (L2.CX X.prog X.w) X σ E)
    (I : Inv X pins σ H s) (r : Vals vs us) (rz : Vals zs ws) (l1 : vs.length = n) (l2 : zs.length = ks.length)
    (h : ∀ x dx, H x = none → H dx = none → dx ≠ x → sp (gV (.ref x :: vs) zs) (upd (upd H dx (.own x)) x (.ins C dx [])) (fun v H2 => v = .non ∧ Q (.ref x) H2) E) :
    wpAny (model X.prog X.w) X.A (call (.ref C) us (ks.zip ws)) (EP X pins σ Q) X.xe s := by
  have I2 := Inv.made (C := C) I
  have rx : Vals (V.ref (s.heap.objs.size + 1) :: vs) (Value.ref (s.heap.objs.size + 1) :: us) := .cons rfl r
  have hq := h _ _ (I.hok.fresh (Nat.le_succ s.heap.objs.size)) (I.hok.fresh (Nat.le_refl s.heap.objs.size)) (Nat.ne_of_lt (Nat.lt_succ_self _))
  have nx : (Value.ref (s.heap.objs.size + 1) :: us).length = n + 1 := by simp only [List.length_cons, ← r.length, l1]
  have run := F.run _ X.stack _ _ ⟨_ :: us, ks.zip ws⟩ _ _ _ E (hr.make C us (ks.zip ws)) (I2.env0.make C us (ks.zip ws)) (b.to _ _ ws I2.kIn nx (rz.length.symm.trans l2)) (b.rel rx rz) hq
  refine wpAny_call (make_map (f := f) I.kIn M.makes M.init (beq_iff_eq.mp M.fn) (codeAny_mono run fun t s' q => ?_))
  match t, q with
  | .error e, q => exact hx pins _ _ e s' I2 q
  | .ok (.ret u), q =>
    obtain ⟨v, H', I3, rv, ev, q3⟩ := I2.after q
    subst ev
    exact ⟨rv, ⟨.ref (s.heap.objs.size + 1), H', I3, rfl, q3⟩⟩
  | .ok .next, q => exact q.elim
  | .ok .brk, q => exact q.elim
  | .ok .cont, q => exact q.elim
end
section
variable {X : Cx} {k n : Nat} {f C : Addr} {fd : FuncData} {ps ks : List Str} {sp : Sp} {E : L2.St → XK} {x m : Str} {p pos apos : Pos} {e o : Expr} {es : List Expr} {kws : List Keyword} {t tk : TA} {ta : TE} {g : List Value → List Value → List Value} {gV : List V → List V → List V}
/-- C(e, .., k = v, ..): a new instance and its dict, then __init__ -/
def tNew (C : Addr) (n m : Nat) (sp : Sp) (gV : List V → List V → List V) (E : L2.St → XK) (t tk : TA) : TE := fun σ H Q => t σ H fun vs H1 => tk σ H1 fun zs H2 => vs.length = n ∧ zs.length = m ∧
  ∀ x dx, H2 x = none → H2 dx = none → dx ≠ x → sp (gV (.ref x :: vs) zs) (upd (upd H2 dx (.own x)) x (.ins C dx [])) (fun v H3 => v = .non ∧ Q (.ref x) H3) (E σ)
theorem pe_newK (M : Mk X.K C f) (F : FnOk X.prog X.w X.K X.mg X.base (L2.CX X.prog X.w) k f fd ps sp) (hr : Room (k + 1) X.A) (hg : Gl X x) (hm : X.mg x = some (.ref C)) (b : KBn X.K fd ps (n + 1) ks g gV) (hx : ∀ σ, PassesAt (L2.CX X.prog X.w) X σ (E σ)) (ha : PA X (e :: es) t) (hkw : PK X kws tk)
    (hall : (backToKw pos (keywordEach kws X.env)).all (·.1.isSome) = true := by rfl) (hks : (backToKw pos (keywordEach kws X.env)).filterMap (·.1) = ks := by rfl) (hdb : (x == ("__debug__" : Str)) = false := by decide)
    (he : starEach (e :: es) X.env = (false, eval e X.env) :: starEach es X.env := by rfl) (hpl : ((backTo pos (starEach (e :: es) X.env)).any (·.1) || (backToKw pos (keywordEach kws X.env)).any (·.1.isNone)) = false := by rfl) :
    PE X (.Call (.Name x p) (e :: es) kws pos) (tNew C n ks.length sp gV E t tk) := by
  constructor
  intro pins s σ H Q I h
  refine wpAny_Call_Name_kw (ld_glob I hg hm (PySem.W.callWith_KW (h₀ := X.base) I.ok.mod.kin M.kp hall (thn (ha.run pos pins s σ H _ I h) fun us s1 ⟨vs, H1, I1, r, q⟩ => ?_) hpl he) hdb)
  refine thn (hkw.run pos pins s1 σ H1 _ I1 q) fun ws s2 ⟨zs, H2, I2, rz, l1, l2, q2⟩ => ⟨I2.kIn, ?_⟩
  rw [hks]
  exact made M F hr b (hx σ) I2 r rz l1 l2 q2
/-- .. without keywords -/
theorem pe_newP (M : Mk X.K C f) (F : FnOk X.prog X.w X.K X.mg X.base (L2.CX X.prog X.w) k f fd ps sp) (hr : Room (k + 1) X.A) (hg : Gl X x) (hm : X.mg x = some (.ref C)) (b : KBn X.K fd ps (n + 1) [] g gV) (hx : ∀ σ, PassesAt (L2.CX X.prog X.w) X σ (E σ)) (ha : PA X (e :: es) t)
    (hdb : (x == ("__debug__" : Str)) = false := by decide) (he : starEach (e :: es) X.env = (false, eval e X.env) :: starEach es X.env := by rfl) (hpl : (backTo pos (starEach es X.env)).any (·.1) = false := by rfl) :
    PE X (.Call (.Name x p) (e :: es) [] pos) (tNew C n 0 sp gV E t tNil) := by
  constructor
  intro pins s σ H Q I h
  refine wpAny_Call_Name_kw (ld_glob I hg hm (PySem.W.callWith_K (h₀ := X.base) I.ok.mod.kin M.kp (thn (ha.run pos pins s σ H _ I h) fun us s1 ⟨vs, H1, I1, r, q⟩ => ⟨I1.kIn, ?_⟩) he hpl) hdb)
  exact made (ws := []) M F hr b (hx σ) I1 r .nil q.1 rfl q.2.2
/-- C() -/
theorem pe_new0 (M : Mk X.K C f) (F : FnOk X.prog X.w X.K X.mg X.base (L2.CX X.prog X.w) k f fd ps sp) (hr : Room (k + 1) X.A) (hg : Gl X x) (hm : X.mg x = some (.ref C)) (b : KBn X.K fd ps 1 [] g gV) (hx : ∀ σ, PassesAt (L2.CX X.prog X.w) X σ (E σ))
    (hdb : (x == ("__debug__" : Str)) = false := by decide) : PE X (.Call (.Name x p) [] [] pos) (tNew C 0 0 sp gV E tNil tNil) := by
  constructor
  intro pins s σ H Q I h
  exact wpAny_Call_Name_kw (ld_glob I hg hm (PySem.W.callWith_K0 I.kIn M.kp (made (us := []) (ws := []) M F hr b (hx σ) I .nil .nil h.1 rfl h.2.2)) hdb)
/-- o.m(e, ..) -/
def tMet (C : Addr) (m : Str) (sp : Sp) (E : L2.St → XK) (ta : TE) (t : TA) : TE := fun σ H Q => ta σ H fun x H1 => ∃ a dx fs, x = .ref a ∧ H1 a = some (.ins C dx fs) ∧ fs.lookup m = none ∧ t σ H1 fun vs H2 => sp (x :: vs) H2 Q (E σ)
theorem pe_met {pl : Sem Bool} (he : PE X o ta) (c : Cls X.K C) (hm : Meth X.K C m f) (F : FnOk X.prog X.w X.K X.mg X.base (L2.CX X.prog X.w) k f fd ps sp) (hr : Room k X.A) (b : Binds X.K fd ps []) (hx : ∀ σ, PassesAt (L2.CX X.prog X.w) X σ (E σ)) (ha : PA X (e :: es) t)
    (hst : starEach (e :: es) X.env = (false, eval e X.env) :: starEach es X.env := by rfl) (hpl : (backTo pos (starEach es X.env)).any (·.1) = false := by rfl)
    (ht : eval (.Call (.Attribute o m apos) (e :: es) [] pos) X.env = (eval o X.env >>= fun ov => standAt apos.atName >>= fun _ => holding [ov] (getMethod ov m pl) >>= fun gf => callWith pos gf.1 gf.2 (backTo pos (starEach (e :: es) X.env)) (backToKw pos (keywordEach [] X.env))) := by rfl) :
    PE X (.Call (.Attribute o m apos) (e :: es) [] pos) (tMet C m sp E ta t) := by
  constructor
  intro pins s σ H Q I h
  refine PySem.W.methodCall_KW (pl := pl) (thn (he.run pins s σ H _ I h) fun u s1 ⟨x, H1, I1, rx, a, dx, fs, ex, ea, l, q⟩ => ?_) ht
  subst ex
  obtain rfl : u = Value.ref a := rx
  refine getmeth_ok I1 ea c hm l (PySem.W.callWith_K (first := [.ref a]) (h₀ := X.base) I.ok.mod.kin hm.kp (thn (ha.run pos pins s1 σ H1 _ I1 q) fun us s2 ⟨vs, H2, I2, r, q2⟩ => ⟨I2.kIn, ?_⟩) hst hpl)
  exact below F b hr rfl (hx σ) I2 (us := .ref a :: us) (vs := .ref a :: vs) (.cons rfl r) q2
theorem pe_met0 {pl : Sem Bool} (he : PE X o ta) (c : Cls X.K C) (hm : Meth X.K C m f) (F : FnOk X.prog X.w X.K X.mg X.base (L2.CX X.prog X.w) k f fd ps sp) (hr : Room k X.A) (b : Binds X.K fd ps []) (hx : ∀ σ, PassesAt (L2.CX X.prog X.w) X σ (E σ))
    (ht : eval (.Call (.Attribute o m apos) [] [] pos) X.env = (eval o X.env >>= fun ov => standAt apos.atName >>= fun _ => holding [ov] (getMethod ov m pl) >>= fun gf => callWith pos gf.1 gf.2 (backTo pos (starEach [] X.env)) (backToKw pos (keywordEach [] X.env))) := by rfl) :
    PE X (.Call (.Attribute o m apos) [] [] pos) (tMet C m sp E ta tNil) := by
  constructor
  intro pins s σ H Q I h
  refine PySem.W.methodCall_KW (pl := pl) (thn (he.run pins s σ H _ I h) fun u s1 ⟨x, H1, I1, rx, a, dx, fs, ex, ea, l, q⟩ => ?_) ht
  subst ex
  obtain rfl : u = Value.ref a := rx
  exact getmeth_ok I1 ea c hm l (PySem.W.callWith_K0 (first := [.ref a]) I1.kIn hm.kp (below F b hr rfl (hx σ) I1 (us := [.ref a]) (vs := [.ref a]) (.cons rfl .nil) q))
end
/-- a class with its own ==, without an own != -/
structure EqC (K : PySem.W.Frag) (C f : Addr) : Prop where
  eq : PySem.W.findIn K (.ref C) "__eq__" = some (some (.ref f))
  fn : PySem.W.isFn K (.ref f) = true
  ne : PySem.W.findIn K (.ref C) "__ne__" = some (some (.builtin "object.__ne__"))
  ob : PySem.W.subIn K (.ref C) (.type "object") = some true
section
variable {X : Cx} {k : Nat} {f C : Addr} {fd : FuncData} {ps : List Str} {sp : Sp}
/-- x == y by the own def; neg: != -/
def rOwn (K : PySem.W.Frag) (C : Addr) (sp : Sp) (neg : Bool) : R2 := fun x y H Q => ∃ a dx fs tb, x = .ref a ∧ H a = some (.ins C dx fs) ∧ TyX K H y tb ∧ PySem.W.notFirst K C tb = true ∧ sp [x, y] H (fun v H' => ∃ b : Bool, v = .bl b ∧ Q (.bl (if neg then !b else b)) H') noE
theorem op_eqOwn (c : EqC X.K C f) (F : FnOk X.prog X.w X.K X.mg X.base (L2.CX X.prog X.w) k f fd ps sp) (hr : Room k X.A) (b : Binds X.K fd ps []) : OpR X (compareOp .Eq) (rOwn X.K C sp false) := by
  intro pins s σ H x y u v Q I rx ry h
  obtain ⟨a, dx, fs, tb, rfl, ha, ty, nf, h⟩ := h
  obtain rfl : u = Value.ref a := rx
  obtain ⟨mA, J, _⟩ := ins_get I.hok ha
  obtain ⟨od, J, _⟩ := J.look
  obtain ⟨m, hF⟩ := I.fr
  obtain ⟨P, Z, hP, _⟩ := kit_of I ry ty
  refine PySem.W.cmp_K (op := .Eq) (tb := tb) hr.units0 hF I.ok.mod.kin J (Z.ty _ _ I.kIn hP) nf c.eq c.fn ?_
  refine wpAny_mono (below F b hr rfl passNo I (us := [.ref a, v]) (vs := [.ref a, y]) (.cons rfl (.cons ry .nil)) h) (fun w s' q => ?_) fun _ _ z => z
  obtain ⟨z, H', I', rz, bb, rfl, q⟩ := q
  cases (show w = Value.bool bb from rz)
  exact ⟨.bl bb, H', I', rfl, by simpa using q⟩
theorem op_neOwn (c : EqC X.K C f) (F : FnOk X.prog X.w X.K X.mg X.base (L2.CX X.prog X.w) k f fd ps sp) (hr : Room (k + 1) X.A) (b : Binds X.K fd ps []) : OpR X (compareOp .NotEq) (rOwn X.K C sp true) := by
  intro pins s σ H x y u v Q I rx ry h
  obtain ⟨a, dx, fs, tb, rfl, ha, ty, nf, h⟩ := h
  obtain rfl : u = Value.ref a := rx
  obtain ⟨mA, J, _⟩ := ins_get I.hok ha
  obtain ⟨od, J, _⟩ := J.look
  obtain ⟨P, Z, hP, _⟩ := kit_of I ry ty
  have hu := hr.units0
  have X0 := I.kIn
  have one : wpAny (model X.prog X.w) X.A (tryCompare (.ref a) "__ne__" v) (fun r s' => ∃ w, r = some w ∧ EP X pins σ Q w s') X.xe s := by
    unfold tryCompare
    simp only [callSpecialIfBound?, bindSpecialIfBound?]
    refine wpAny_bind (wpAny_holding (wpAny_bind (wpAny_bind (wpAny_bind (J.type.here ((PySem.W.looks_findIn X0 c.ne).here ?_))))))
    simp only [PySem.F.cmp_object.ne.bind]
    have hI : PySem.W.Looks (model X.prog X.w) s.heap (isInstance (.ref a) (.type "object")) true := J.type.andThen (PySem.W.looks_subIn X0 c.ob)
    have cal : wpAny (model X.prog X.w) X.A (call (.builtin "object.__ne__") [.ref a, v]) (fun w s' => ∃ bb : Bool, w = .bool bb ∧ EP X pins σ Q (.bool bb) s') X.xe s := by
      refine wpAny_call (codeAny_call_builtin PySem.F.cmp_object.ne.plain PySem.F.cmpEntry_ne (PySem.W.check_slot PySem.F.cmpKind_ne PySem.F.cmpSplit_ne hI (PySem.F.cmpArgs_ne _ _) ?_))
      have eqc := below (A := X.A.in1) F b hr.in1 rfl passNo I (us := [.ref a, v]) (vs := [.ref a, y]) (.cons rfl (.cons ry .nil)) h
      have eqd : wpAny (model X.prog X.w) X.A.in1 (callSpecialIfBound? (.ref a) "__eq__" [v]) (fun r s' => ∃ bb : Bool, r = some (.bool bb) ∧ EP X pins σ Q (.bool (!bb)) s') X.xe s := by
        refine PySem.W.ifBound_K X0 J c.eq c.fn (wpAny_mono eqc (fun w s' q => ?_) fun _ _ z => z)
        obtain ⟨z, H', I', rz, bb, rfl, q⟩ := q
        cases (show w = Value.bool bb from rz)
        exact ⟨bb, rfl, .bl (!bb), H', I', rfl, by simpa using q⟩
      unfold Builtin.«object.__ne__»
      repeat (first
        | with_reducible refine wpAny_cRoomFor hr.in1.units0 ?_
        | (refine wpAny_bind (m := callSpecialIfBound? (.ref a) (Str.ofString "__eq__") [v]) (wpAny_mono eqd (fun r s' hr' => by
            obtain ⟨bb, rfl, hq⟩ := hr'
            repeat (first | exact ⟨_, rfl, hq⟩ | (refine wpAny_bind (m := truthy (.bool _)) (wpAny_truthy_bool ?_)) | wp_step)) fun _ _ z => z))
        | wp_step)
    have fin : wpAny (model X.prog X.w) X.A (call (.builtin "object.__ne__") ([.ref a] ++ [v]) >>= fun w => pure (some w)) (fun r s' => ∃ bb : Bool, r = some (.bool bb) ∧ EP X pins σ Q (.bool bb) s') X.xe s := by
      refine wpAny_bind (wpAny_mono cal (fun w s' q => ?_) fun _ _ z => z)
      obtain ⟨bb, rfl, q⟩ := q
      exact wpAny_pure ⟨bb, rfl, q⟩
    have fin2 := wpAny_mono fin (fun r s' (q : ∃ bb : Bool, r = some (.bool bb) ∧ EP X pins σ Q (.bool bb) s') => (show wpAny (model X.prog X.w) X.A (match r with
            | some Value.notImplemented => pure none
            | none => pure none
            | some w => pure (some w)) (fun r s' => ∃ w, r = some w ∧ EP X pins σ Q w s') X.xe s' from by
      obtain ⟨bb, rfl, q⟩ := q
      exact wpAny_pure ⟨_, rfl, q⟩)) fun _ _ z => z
    refine wpAny_bind (wpAny_askSetting (wpAny_ite ?_))
    split
    · exact wpAny_bind (wpAny_pure (wpAny_pure fin2))
    · exact wpAny_tryCatch (wpAny_bind (wpAny_pure (wpAny_pure fin2)))
  show wpAny (model X.prog X.w) X.A (richCompare .NotEq (.ref a) v) (EP X pins σ Q) X.xe s
  unfold richCompare
  simp only [oneThing_ref]
  refine wpAny_holding (wpAny_bind (wpAny_cRoomFor hu ?_))
  refine wpAny_bind (J.type.here (wpAny_bind ((Z.ty _ _ I.kIn hP).here ?_)))
  split
  · rename_i q
    have e : PySem.W.subIn X.K tb (.ref C) = some false := by
      rcases Bool.or_eq_true_iff.mp nf with e | e
      · rw [beq_iff_eq.mp e] at q; simp at q
      · exact beq_iff_eq.mp e
    refine wpAny_bind ((PySem.W.looks_subIn X0 e).here ?_)
    simp only [Bool.false_eq_true, if_false]
    refine wpAny_bind (wpAny_mono one (fun r s' q => ?_) fun _ _ z => z)
    obtain ⟨w, rfl, q⟩ := q
    exact wpAny_pure q
  · refine wpAny_bind (wpAny_pure ?_)
    simp only [Bool.false_eq_true, if_false]
    refine wpAny_bind (wpAny_mono one (fun r s' q => ?_) fun _ _ z => z)
    obtain ⟨w, rfl, q⟩ := q
    exact wpAny_pure q
end
end OB

set_option Elab.async false
set_option linter.all false
set_option maxRecDepth 100000
set_option maxHeartbeats 4000000
set_option autoImplicit false
/-! The data layer: own classes, lists that change, numbers in texts. -/
namespace DL
open PySem PySem.Spec PyProof.Rows L2
section
variable {X : Cx} {M : LK} {W : WX} {pn : Addr} {G G1 H H1 : Hp} {n : NS} {σ : L2.St} {δ : DEnv}
/-! ### fields -/
theorem zip_look {G : Hp} {f : Str} : ∀ {fs : List (Str × V)} {xs : List D} {d : D}, IsL M G (fs.map (·.2)) xs → ((fs.map (·.1)).zip xs).lookup f = some d → ∃ v, fs.lookup f = some v ∧ Is M G v d := fun h1 h2 => xd_look h1 h2
theorem look_none {f : Str} : ∀ {fs : List (Str × V)}, f ∉ fs.map (·.1) → fs.lookup f = none
  | [], _ => rfl
  | (g, v) :: fs, h => by
    simp only [List.map_cons, List.mem_cons, not_or] at h
    have : (f == g) = false := by simpa using h.1
    rw [List.lookup, this]
    exact look_none h.2
/-- e.f; Cs: the classes that have such a field -/
def dFld (Cs : List Addr) (f : Str) (fo : DTE) : DTE := fun δ n q e => fo δ n (fun x n1 => match x with
  | .ins C ns xs => C ∈ Cs ∧ ∃ d, (ns.zip xs).lookup f = some d ∧ q d n1
  | .ref a => ∃ C dx ns xs d, n1.mu a = some (.ins C dx ns xs) ∧ C ∈ Cs ∧ (ns.zip xs).lookup f = some d ∧ q d n1
  | _ => False) e
def FldOk (K : PySem.W.Frag) (Cs : List Addr) (f : Str) : Prop := ∀ C ∈ Cs, Cls K C ∧ NoAttr K C f
theorem dp_fld {o : Expr} {f : Str} {pos : Pos} {Cs : List Addr} {fo : DTE} (hc : FldOk X.K Cs f) (ho : PE X o (liftE M W fo)) (hb : attributeBase o f X.env (eval o X.env) = eval o X.env := by rfl) : PE X (.Attribute o f pos) (liftE M W (dFld Cs f fo)) :=
  PEw (pe_fld ho hb) fun σ H Q ⟨pn, G, n, δ, q, e, R, hf, hQ, hX⟩ => by
    refine ⟨pn, G, n, δ, _, e, R, hf, fun G1 v x n1 H1 A1 R1 i1 h1 => ?_, hX⟩
    cases x with
    | ins C ns xs =>
      simp only [Is] at i1
      obtain ⟨p, dx, fs, rfl, g1, rfl, g3⟩ := i1
      obtain ⟨hC, d, hl, h1⟩ := h1
      obtain ⟨u, hu, iu⟩ := zip_look g3 hl
      exact ⟨p, C, dx, fs, u, rfl, R1.ex _ _ g1, (hc C hC).1, (hc C hC).2, hu, hQ G1 u d n1 H1 A1 R1 iu h1⟩
    | ref a =>
      simp only [Is] at i1
      subst i1
      obtain ⟨C, dx, ns, xs, d, hm, hC, hl, h1⟩ := h1
      obtain ⟨u, g1, g2, _, _⟩ := R1.mu a _ hm
      cases u <;> simp only [MIs] at g2
      rename_i C' dx' fs
      obtain ⟨rfl, rfl, rfl, g3⟩ := g2
      obtain ⟨u, hu, iu⟩ := zip_look g3 hl
      exact ⟨a, _, _, fs, u, rfl, g1, (hc _ hC).1, (hc _ hC).2, hu, hQ G1 u d n1 H1 A1 R1 iu h1⟩
    | _ => exact h1.elim
theorem putF_new {f : Str} {v : V} : ∀ {fs : List (Str × V)}, f ∉ fs.map (·.1) → putF f v fs = fs ++ [(f, v)]
  | [], _ => rfl
  | (g, x) :: fs, h => by
    simp only [List.map_cons, List.mem_cons, not_or] at h
    show (if g = f then (g, v) :: fs else (g, x) :: putF f v fs) = _
    rw [if_neg (Ne.symm h.1), putF_new h.2]
    rfl
/-- o.f = v, a new field -/
def gField (to : TE) (K : PySem.W.Frag) (f : Str) : TG := fun v σ H Q => to σ H fun x H2 => ∃ a C dx fs, x = .ref a ∧ H2 a = some (.ins C dx fs) ∧ Cls K C ∧ NoAttr K C f ∧ fs.length < 1000 ∧ Q σ (upd H2 a (.ins C dx (putF f v fs)))
theorem pg_field {o : Expr} {f : Str} {pos : Pos} {to : TE} (ho : PE X o to) (ha : ∀ v, assign (.Attribute o f pos) X.env v = (holding [v] (eval o X.env) >>= fun ov => standAt pos.atName >>= fun _ => holding [v, ov] (setAttr ov f v) >>= fun _ => release [v, ov] []) := by intro _; rfl) : PG X (.Attribute o f pos) (gField to X.K f) := by
  constructor
  intro pins s σ H v u Q I r h
  rw [ha]
  refine wpAny_bind (wpAny_holding (thn (ho.run pins s σ H _ I h) fun ov s1 ⟨x, H2, I2, rx, a, C, dx, fs, ex, ea, c, n, l, q⟩ => ?_))
  subst ex
  obtain rfl : ov = Value.ref a := rx
  exact wpAny_bind (wpAny_standAt (wpAny_bind (wpAny_holding (setattr_ok I2 ea c n l r fun s3 I3 => wpAny_release ⟨σ, _, I3, q⟩))))
def dgFld (Cs : List Addr) (f : Str) (fo : DTE) : DTG := fun d δ n q => fo δ n (fun x n1 => match x with
  | .ref a => ∃ C dx ns xs, n1.mu a = some (.ins C dx ns xs) ∧ C ∈ Cs ∧ f ∉ ns ∧ ns.length < 1000 ∧ q δ ⟨n1.at_, mup n1.mu a (some (.ins C dx (ns ++ [f]) (xs ++ [d])))⟩
  | _ => False) noX
theorem dg_fld {o : Expr} {f : Str} {pos : Pos} {Cs : List Addr} {fo : DTE} {vs : List Nat} (hc : FldOk X.K Cs f) (ho : PE X o (liftE M W fo)) (ha : ∀ v, assign (.Attribute o f pos) X.env v = (holding [v] (eval o X.env) >>= fun ov => standAt pos.atName >>= fun _ => holding [v, ov] (setAttr ov f v) >>= fun _ => release [v, ov] []) := by intro _; rfl) : PG X (.Attribute o f pos) (liftG M vs (dgFld Cs f fo)) :=
  PGw (pg_field ho ha) fun v σ H Q ⟨pn, G, n, δ, d, q, R, hi, hg, hQ⟩ => by
    refine ⟨pn, G, n, δ, _, noX, R, hg, fun G1 w x n1 H1 A1 R1 i1 h1 => ?_, XEnd.no noX_no⟩
    cases x with
    | ref a =>
      simp only [Is] at i1
      subst i1
      obtain ⟨C, dx, ns, xs, hm, hC, hn, hl, h1⟩ := h1
      obtain ⟨u, g1, g2, _, _⟩ := R1.mu a _ hm
      cases u <;> simp only [MIs] at g2
      rename_i C' dx' fs
      obtain ⟨rfl, rfl, rfl, g3⟩ := g2
      refine ⟨a, _, _, fs, rfl, g1, (hc _ hC).1, (hc _ hC).2, by simpa using hl, ?_⟩
      rw [putF_new hn]
      refine hQ G1 σ δ _ _ ⟨A1.ge⟩ (R1.chg hm ?_) rfl h1
      simp only [MIs, List.map_append, List.map_cons, List.map_nil]
      exact ⟨trivial, trivial, trivial, IsL.append g3 (by simp only [IsL]; exact ⟨Is.up A1.ge d v hi, trivial⟩)⟩
    | _ => exact h1.elim
/-- an object aside -/
theorem Rep.side {p : Addr} {o : HO} (R : Rep M pn G n σ δ H) (h : H p = none) : Rep M pn G n σ δ (upd H p o) := by
  have np := R.penne h
  refine ⟨fun a u e => by rw [upd_ne (ne_of_none (R.ex _ _ e) h)]; exact R.ex _ _ e, R.pen.new np, R.tab.ext fun b u e => by rw [upd_ne (ne_of_none e h)]; exact e, R.nt, R.pe, fun a u e => ?_, R.env⟩
  obtain ⟨x, h1, h2⟩ := R.mu a u e
  exact ⟨x, by rw [upd_ne (ne_of_none h1 h)]; exact h1, h2⟩
end
/-! ### a new instance -/
theorem PKw {X : Cx} {e : List Keyword} {t t' : TA} (h : PK X e t) (w : ∀ σ H Q, t' σ H Q → t σ H Q) : PK X e t' := ⟨fun pos pins s σ H Q I q => h.run pos pins s σ H Q I (w _ _ _ q)⟩
section
variable {X : Cx} {M : LK} {W : WX}
theorem dk_nil : PK X [] (liftA M W dNil) := PKw pk_nil fun σ H Q ⟨pn, G, n, δ, q, e, R, hf, hQ, hX⟩ => hQ G [] [] n H Adv.refl R (by simp only [IsL]) hf
theorem dk_cons {e : Expr} {nm : Option Str} {kpos : Pos} {kws : List Keyword} {f : DTE} {g : DTA} (ha : PE X e (liftE M W f)) (hr : PK X kws (liftA M W g)) : PK X (⟨nm, e, kpos⟩ :: kws) (liftA M W (dCons f g)) :=
  PKw (pk_cons ha hr) fun σ H Q ⟨pn, G, n, δ, q, e, R, hf, hQ, hX⟩ => by
    refine ⟨pn, G, n, δ, _, e, R, hf, fun G1 v d n1 H1 A1 R1 i1 h1 => ?_, hX⟩
    refine ⟨pn, G1, n1, δ, _, e, R1, h1, fun G2 vs ds n2 H2 A2 R2 i2 h2 => ?_, hX.on R A1⟩
    exact hQ G2 (v :: vs) (d :: ds) n2 H2 (R.tr A1 A2) R2 (by simp only [IsL]; exact ⟨Is.up A2.ge d v i1, i2⟩) h2
end
/-- what the __init__ that keeps sI makes of C(..), as a promise -/
def NewOk (C : Addr) (sI s : DSp) : Prop := ∀ ds n q e, s ds n q e → ∀ a dx, n.mu a = none → sI (.ref a :: ds) ⟨n.at_, mup n.mu a (some (.ins C dx [] []))⟩ (fun d n' => d = .non ∧ ∃ ns xs dy, n'.mu a = some (.ins C dy ns xs) ∧ q (.ins C ns xs) ⟨n'.at_, mup n'.mu a none⟩) fun B ns xs n' => e B ns xs ⟨n'.at_, mup n'.mu a none⟩
/-- the class x, called with m values and the keywords ks; g: the arguments in the parameters' order -/
structure NewD (P : Program) (w : World) (K : PySem.W.Frag) (mg : Str → Option Value) (base : Heap) (M : LK) (k : Nat) (x : Str) (m : Nat) (ks : List Str) (g : List D → List D → List D) (s : DSp) : Prop where
  ex : ∃ (C f : Addr) (fd : FuncData) (ps : List Str) (gu : List Value → List Value → List Value) (gV : List V → List V → List V) (r : Nat) (sI : DSp), Mk K C f ∧ mg x = some (.ref C) ∧ FnOk P w K mg base (L2.CX P w) k f fd ps (lift M r sI) ∧ KBn K fd ps (m + 1) ks gu gV ∧
    (∀ (G : Hp) (a : Addr) (vs zs : List V) (ds es : List D), IsL M G vs ds → IsL M G zs es → ds.length = m → es.length = ks.length → IsL M G (gV (.ref a :: vs) zs) (.ref a :: g ds es) ∧ (g ds es).length + 1 = r) ∧ NewOk C sI s
def dNew (m : Nat) (ks : List Str) (g : List D → List D → List D) (s : DSp) (fa fk : DTA) : DTE := fun δ n q e => fa δ n (fun ds n1 => fk δ n1 (fun es n2 => ds.length = m ∧ es.length = ks.length ∧ s (g ds es) n2 q (e δ)) e) e
section
variable {X : Cx} {M : LK} {W : WX} {x : Str} {p pos : Pos} {e : Expr} {es : List Expr} {kws : List Keyword} {fa fk : DTA} {k j m : Nat} {ks : List Str} {g : List D → List D → List D} {s : DSp}
theorem new_lift {C : Addr} {gV : List V → List V → List V} {r : Nat} {sI : DSp} (hg : ∀ (G : Hp) (a : Addr) (vs zs : List V) (ds es : List D), IsL M G vs ds → IsL M G zs es → ds.length = m → es.length = ks.length → IsL M G (gV (.ref a :: vs) zs) (.ref a :: g ds es) ∧ (g ds es).length + 1 = r) (ok : NewOk C sI s)
    (σ : L2.St) (H : Hp) (Q : VK) (h : liftE M W (dNew m ks g s fa fk) σ H Q) : OB.tNew C m ks.length (lift M r sI) gV (fun σ cls d H' => W cls d σ H') (liftA M W fa) (liftA M W fk) σ H Q := by
  obtain ⟨pn, G, n, δ, q, e, R, hf, hQ, hX⟩ := h
  refine ⟨pn, G, n, δ, _, e, R, hf, fun G1 vs ds n1 H1 A1 R1 i1 h1 => ?_, hX⟩
  refine ⟨pn, G1, n1, δ, _, e, R1, h1, fun G2 zs es n2 H2 A2 R2 i2 h2 => ?_, hX.on R A1⟩
  obtain ⟨l1, l2, h2⟩ := h2
  refine ⟨i1.length.trans l1, i2.length.trans l2, fun a dx ha hd hne => ?_⟩
  have ha' : upd H2 dx (.own a) a = none := by rw [upd_ne (Ne.symm hne)]; exact ha
  obtain ⟨R3, A3⟩ := (R2.side (o := .own a) hd).mak (o := .ins C dx []) (u := .ins C dx [] []) ha' (by simp only [MIs, List.map_nil, IsL]; exact ⟨trivial, trivial, trivial, trivial⟩)
  have A12 := R.tr A1 A2
  obtain ⟨i3, l3⟩ := hg G2 a vs zs ds es (IsL.up A2.ge _ _ i1) i2 l1 l2
  refine ⟨pn, G2, _, _, _, _, R3.bare, i3, by simpa using l3, ok _ _ _ _ h2 a dx (R2.munone ha), fun G4 v d n4 H4 A4 R4 i4 h4 => ?_, fun G4 C' a' ns xs n4 H4 A4 R4 x4 h4 => ?_⟩
  · obtain ⟨rfl, ns, xs, dy, hm, h4⟩ := h4
    simp only [Is] at i4
    obtain ⟨G5, R5, A5, i5⟩ := frz_is R4 hm rfl
    exact ⟨i4, hQ G5 (.ref a) (.ins C ns xs) _ H4 ⟨(A12.ge.trans A4.ge).trans A5.ge⟩ (R3.back R5 ⟨A4.ge.trans A5.ge⟩) i5 h4⟩
  · exact hX G4 C' a' ns xs ⟨n4.at_, mup n4.mu a none⟩ H4 ⟨A12.ge.trans A4.ge⟩ ((R3.back R4 A4).sub ⟨Nat.le_refl _, fun b o e => by
      by_cases z : b = a
      · subst z
        rw [show (⟨n4.at_, mup n4.mu b none⟩ : NS).mu b = none from mup_same] at e
        cases e
      · rw [← e]
        exact (mup_ne z).symm⟩) x4 h4
theorem dp_newK (c : NewD X.prog X.w X.K X.mg X.base M k x m ks g s) (hr : Room j X.A) (hkj : k + 1 ≤ j) (tk : Takes X W) (hg : Gl X x) (ha : PA X (e :: es) (liftA M W fa)) (hkw : PK X kws (liftA M W fk))
    (hall : (backToKw pos (keywordEach kws X.env)).all (·.1.isSome) = true := by rfl) (hks : (backToKw pos (keywordEach kws X.env)).filterMap (·.1) = ks := by rfl) (hdb : (x == ("__debug__" : Str)) = false := by decide)
    (he : starEach (e :: es) X.env = (false, eval e X.env) :: starEach es X.env := by exact starEach_cons rfl) (hpl : ((backTo pos (starEach (e :: es) X.env)).any (·.1) || (backToKw pos (keywordEach kws X.env)).any (·.1.isNone)) = false := by rfl) : PE X (.Call (.Name x p) (e :: es) kws pos) (liftE M W (dNew m ks g s fa fk)) := by
  obtain ⟨C, f, fd, ps, gu, gV, r, sI, mk, hm, F, b, hgg, ok⟩ := c.ex
  exact PEw (OB.pe_newK mk F (hr.mono hkj) hg hm b (fun σ => passAt tk σ) ha hkw hall hks hdb he hpl) (new_lift hgg ok)
theorem dp_newP (c : NewD X.prog X.w X.K X.mg X.base M k x m [] g s) (hr : Room j X.A) (hkj : k + 1 ≤ j) (tk : Takes X W) (hg : Gl X x) (ha : PA X (e :: es) (liftA M W fa))
    (hdb : (x == ("__debug__" : Str)) = false := by decide) (he : starEach (e :: es) X.env = (false, eval e X.env) :: starEach es X.env := by exact starEach_cons rfl) (hpl : (backTo pos (starEach es X.env)).any (·.1) = false := by rfl) : PE X (.Call (.Name x p) (e :: es) [] pos) (liftE M W (dNew m [] g s fa dNil)) := by
  obtain ⟨C, f, fd, ps, gu, gV, r, sI, mk, hm, F, b, hgg, ok⟩ := c.ex
  refine PEw (OB.pe_newP mk F (hr.mono hkj) hg hm b (fun σ => passAt tk σ) ha hdb he hpl) fun σ H Q h => ?_
  obtain ⟨pn, G, n, δ, q, ex, R, hf, hQ, hX⟩ := new_lift hgg ok σ H Q h
  refine ⟨pn, G, n, δ, q, ex, R, hf, fun G' vs ds n' H' A' R' i' h' => ?_, hX⟩
  obtain ⟨pn2, G2, n2, δ2, q2, ex2, R2, hf2, hQ2, _⟩ := hQ G' vs ds n' H' A' R' i' h'
  exact hQ2 G2 [] [] n2 H' Adv.refl R2 (by simp only [IsL]) hf2
/-! ### methods -/
structure MetD (P : Program) (w : World) (K : PySem.W.Frag) (mg : Str → Option Value) (base : Heap) (M : LK) (k : Nat) (C : Addr) (y : Str) (ps : List Str) (s : DSp) : Prop where
  ex : ∃ f fd, Cls K C ∧ Meth K C y f ∧ FnOk P w K mg base (L2.CX P w) k f fd ps (lift M ps.length s) ∧ Binds K fd ps []
def dMet (C : Addr) (y : Str) (r : Nat) (s : DSp) (fo : DTE) (fa : DTA) : DTE := fun δ n q e => fo δ n (fun x n1 => match x with
  | .ins C' ns xs => C' = C ∧ y ∉ ns ∧ fa δ n1 (fun ds n2 => ds.length + 1 = r ∧ s (.ins C' ns xs :: ds) n2 q (e δ)) e
  | _ => False) e
theorem met_lift {C : Addr} {y : Str} {r : Nat} {fo : DTE} (σ : L2.St) (H : Hp) (Q : VK) (h : liftE M W (dMet C y r s fo fa) σ H Q) : OB.tMet C y (lift M r s) (fun σ cls d H' => W cls d σ H') (liftE M W fo) (liftA M W fa) σ H Q := by
  obtain ⟨pn, G, n, δ, q, e, R, hf, hQ, hX⟩ := h
  refine ⟨pn, G, n, δ, _, e, R, hf, fun G1 v x n1 H1 A1 R1 i1 h1 => ?_, hX⟩
  cases x with
  | ins C' ns xs =>
    obtain ⟨rfl, hy, h1⟩ := h1
    have i1' := i1
    simp only [Is] at i1'
    obtain ⟨a, dx, fs, rfl, g1, rfl, g3⟩ := i1'
    refine ⟨a, dx, fs, rfl, R1.ex _ _ g1, look_none hy, pn, G1, n1, δ, _, e, R1, h1, fun G2 vs ds n2 H2 A2 R2 i2 h2 => ?_, hX.on R A1⟩
    exact ⟨pn, G2, n2, _, q, e δ, R2.bare, by simp only [IsL]; exact ⟨Is.up A2.ge _ _ i1, i2⟩, (by simpa using h2.1), h2.2, fun G3 v d n3 H3 A3 R3 i3 h3 => hQ G3 v d n3 H3 (R.tr (R.tr A1 A2) A3) (R2.back R3 A3) i3 h3, fun G3 C a ns xs n3 H3 A3 R3 x3 h3 => hX G3 C a ns xs n3 H3 (R.tr (R.tr A1 A2) A3) (R2.back R3 A3) x3 h3⟩
  | _ => exact h1.elim
theorem dp_met {C : Addr} {y : Str} {ps : List Str} {o : Expr} {fo : DTE} {apos : Pos} {r : Nat} {pl : Sem Bool} (c : MetD X.prog X.w X.K X.mg X.base M k C y ps s) (hr : Room j X.A) (hkj : k ≤ j) (tk : Takes X W) (ho : PE X o (liftE M W fo)) (ha : PA X (e :: es) (liftA M W fa)) (hm : ps.length = r := by rfl)
    (hst : starEach (e :: es) X.env = (false, eval e X.env) :: starEach es X.env := by exact starEach_cons rfl) (hpl : (backTo pos (starEach es X.env)).any (·.1) = false := by rfl)
    (ht : eval (.Call (.Attribute o y apos) (e :: es) [] pos) X.env = (eval o X.env >>= fun ov => standAt apos.atName >>= fun _ => holding [ov] (getMethod ov y pl) >>= fun gf => callWith pos gf.1 gf.2 (backTo pos (starEach (e :: es) X.env)) (backToKw pos (keywordEach [] X.env))) := by rfl) :
    PE X (.Call (.Attribute o y apos) (e :: es) [] pos) (liftE M W (dMet C y r s fo fa)) := by
  subst hm
  obtain ⟨f, fd, cl, hm, F, b⟩ := c.ex
  exact PEw (OB.pe_met ho cl hm F (hr.mono hkj) b (fun σ => passAt tk σ) ha hst hpl ht) met_lift
theorem dp_met0 {C : Addr} {y : Str} {ps : List Str} {o : Expr} {fo : DTE} {apos : Pos} {r : Nat} {pl : Sem Bool} (c : MetD X.prog X.w X.K X.mg X.base M k C y ps s) (hr : Room j X.A) (hkj : k ≤ j) (tk : Takes X W) (ho : PE X o (liftE M W fo)) (hm : ps.length = r := by rfl)
    (ht : eval (.Call (.Attribute o y apos) [] [] pos) X.env = (eval o X.env >>= fun ov => standAt apos.atName >>= fun _ => holding [ov] (getMethod ov y pl) >>= fun gf => callWith pos gf.1 gf.2 (backTo pos (starEach [] X.env)) (backToKw pos (keywordEach [] X.env))) := by rfl) :
    PE X (.Call (.Attribute o y apos) [] [] pos) (liftE M W (dMet C y r s fo dNil)) := by
  subst hm
  obtain ⟨f, fd, cl, hm, F, b⟩ := c.ex
  refine PEw (OB.pe_met0 ho cl hm F (hr.mono hkj) b (fun σ => passAt tk σ) ht) fun σ H Q h => ?_
  obtain ⟨pn, G, n, δ, q, ex, R, hf, hQ, hX⟩ := met_lift σ H Q h
  refine ⟨pn, G, n, δ, q, ex, R, hf, fun G' v d n' H' A' R' i' h' => ?_, hX⟩
  obtain ⟨a, dx, fs, e1, e2, e3, pn2, G2, n2, δ2, q2, ex2, R2, hf2, hQ2, _⟩ := hQ G' v d n' H' A' R' i' h'
  exact ⟨a, dx, fs, e1, e2, e3, hQ2 G2 [] [] n2 H' Adv.refl R2 (by simp only [IsL]) hf2⟩
end
/-! ### == and != by an own __eq__ -/
section
variable {X : Cx} {M : LK} {W : WX}
structure EqD (P : Program) (w : World) (K : PySem.W.Frag) (mg : Str → Option Value) (base : Heap) (M : LK) (k : Nat) (C : Addr) (s : DSp) : Prop where
  ex : ∃ f fd ps, OB.EqC K C f ∧ FnOk P w K mg base (L2.CX P w) k f fd ps (lift M 2 s) ∧ Binds K fd ps []
/-- the one who compares is an instance of C; otherwise as gEq | gNe -/
def gEqO (K : PySem.W.Frag) (C : Addr) (s : DSp) (neg : Bool) : GR2 := fun x y n q => match x with
  | .ins C' ns xs => C' = C ∧ (∃ t, tyD K y t ∧ PySem.W.notFirst K C t = true) ∧ s [.ins C' ns xs, y] n (fun d n' => ∃ b : Bool, d = .bl b ∧ q (.bl (if neg then !b else b)) n') fun _ _ _ _ => False
  | x => eqD x y fun b => q (.bl (if neg then !b else b)) n
theorem own_is {C : Addr} {s : DSp} {neg : Bool} {pn : Addr} {G H : Hp} {n : NS} {σ : L2.St} {δ : DEnv} {v u : V} {y : D} {C' : Addr} {ns : List Str} {xs : List D} {q : D → NS → Prop} {Q : VK} (R : Rep M pn G n σ δ H) (ix : Is M G v (.ins C' ns xs)) (iy : Is M G u y) (h : gEqO M.L.K C s neg (.ins C' ns xs) y n q)
    (k : ∀ G' w d n' H', Adv pn G H G' H' → Rep M pn G' n' σ δ H' → Is M G' w d → q d n' → Q w H') : OB.rOwn M.L.K C (lift M 2 s) neg v u H Q := by
  obtain ⟨rfl, ⟨t, ht, hn⟩, h⟩ := h
  have ix' := ix
  simp only [Is] at ix'
  obtain ⟨a, dx, fs, rfl, g1, rfl, g3⟩ := ix'
  refine ⟨a, dx, fs, t, rfl, R.ex _ _ g1, tyD_ok R.ex ht iy, hn, pn, G, n, _, _, _, R.bare, by simp only [IsL]; exact ⟨ix, iy, trivial⟩, rfl, h, fun G1 w d n1 H1 A1 R1 i1 h1 => ?_, fun _ _ _ _ _ _ _ _ _ _ z => z.elim⟩
  obtain ⟨b, rfl, h1⟩ := h1
  simp only [Is] at i1
  exact ⟨b, i1, k G1 (.bl (if neg then !b else b)) (.bl (if neg then !b else b)) n1 H1 A1 (R.back R1 A1) (by simp only [Is]) h1⟩
theorem op_eqO {C : Addr} {s : DSp} {k j : Nat} (c : EqD X.prog X.w X.K X.mg X.base M k C s) (hK : X.K = M.L.K) (hr : Room j X.A) (hkj : k ≤ j) : OpR X (compareOp .Eq) (fun x y H Q => (rEq x y H Q ∨ rEqD M.L.K x y H Q) ∨ OB.rOwn M.L.K C (lift M 2 s) false x y H Q) := by
  obtain ⟨f, fd, ps, e, F, b⟩ := c.ex
  exact OpR.or (op_eqX hK (by have := hr.un; omega)) (hK ▸ OB.op_eqOwn e F (hr.mono hkj) b)
theorem op_neO {C : Addr} {s : DSp} {k j : Nat} (c : EqD X.prog X.w X.K X.mg X.base M k C s) (hK : X.K = M.L.K) (hr : Room j X.A) (hkj : k + 1 ≤ j) : OpR X (compareOp .NotEq) (fun x y H Q => (rNe x y H Q ∨ rNeD M.L.K x y H Q) ∨ OB.rOwn M.L.K C (lift M 2 s) true x y H Q) := by
  obtain ⟨f, fd, ps, e, F, b⟩ := c.ex
  exact OpR.or (op_neX hK (by have := hr.un; omega)) (hK ▸ OB.op_neOwn e F (hr.mono hkj) b)
theorem dr_eqO {C : Addr} {s : DSp} : DR2 M (fun x y H Q => (rEq x y H Q ∨ rEqD M.L.K x y H Q) ∨ OB.rOwn M.L.K C (lift M 2 s) false x y H Q) (gEqO M.L.K C s false) := by
  intro pn G n σ δ H v u x y q Q R ix iy h k
  cases x with
  | ins C' ns xs => exact .inr (own_is R ix iy h k)
  | _ => exact .inl (dr_eq pn G n σ δ H v u _ y q Q R ix iy (by simpa only [gEqO, gEq, Bool.false_eq_true, if_false] using h) k)
theorem dr_neO {C : Addr} {s : DSp} : DR2 M (fun x y H Q => (rNe x y H Q ∨ rNeD M.L.K x y H Q) ∨ OB.rOwn M.L.K C (lift M 2 s) true x y H Q) (gEqO M.L.K C s true) := by
  intro pn G n σ δ H v u x y q Q R ix iy h k
  cases x with
  | ins C' ns xs => exact .inr (own_is R ix iy h k)
  | _ => exact .inl (dr_ne pn G n σ δ H v u _ y q Q R ix iy (by simpa only [gEqO, gNe, if_true] using h) k)
end
end DL

set_option Elab.async false
set_option linter.all false
set_option maxRecDepth 100000
set_option maxHeartbeats 4000000
set_option autoImplicit false
/-! The data layer: lists that change, name op= e, numbers in texts. -/
namespace DL
open PySem PySem.Spec PyProof.Rows L2
section
variable {X : Cx} {M : LK} {W : WX}
/-! ### lists that change -/
def dApp (fo fe : DTE) : DTE := fun δ n q e => fo δ n (fun x n1 => ∃ a, x = .ref a ∧ (∃ xs, n1.mu a = some (.lst xs)) ∧ fe δ n1 (fun y n2 => ∃ xs, n2.mu a = some (.lst xs) ∧ xs.length < 100000 ∧ q .non ⟨n2.at_, mup n2.mu a (some (.lst (xs ++ [y])))⟩) e) e
theorem dp_app {o e : Expr} {apos pos : Pos} {fo fe : DTE} (h : PE X (.Call (.Attribute o "append" apos) [e] [] pos) (tBM X.K "list" rAppend (liftE M W fo) (liftA M W (dCons fe dNil)))) : PE X (.Call (.Attribute o "append" apos) [e] [] pos) (liftE M W (dApp fo fe)) :=
  PEw h fun σ H Q ⟨pn, G, n, δ, q, e, R, hf, hQ, hX⟩ => by
    refine ⟨pn, G, n, δ, _, e, R, hf, fun G1 v x n1 H1 A1 R1 i1 h1 => ?_, hX⟩
    obtain ⟨a, rfl, ⟨xs0, hm0⟩, h1⟩ := h1
    simp only [Is] at i1
    subst i1
    obtain ⟨u, g1, g2, _, _⟩ := R1.mu a _ hm0
    cases u <;> simp only [MIs] at g2
    refine ⟨.inl ⟨rfl, _, SqL.of g1⟩, pn, G1, n1, δ, fun ds n2 => ∃ y, ds = [y] ∧ ∃ xs, n2.mu a = some (.lst xs) ∧ xs.length < 100000 ∧ q .non ⟨n2.at_, mup n2.mu a (some (.lst (xs ++ [y])))⟩, e, R1, ?_, fun G2 vs ds n2 H2 A2 R2 i2 h2 => ?_, hX.on R A1⟩
    · simpa only [dCons, dNil, List.cons.injEq, and_true, exists_eq_left'] using h1
    · obtain ⟨y, rfl, xs, hm, hl, h2⟩ := h2
      obtain ⟨w, rfl, iw⟩ := i2.one
      obtain ⟨u, k1, k2, _, _⟩ := R2.mu a _ hm
      cases u <;> simp only [MIs] at k2
      rename_i vs
      refine ⟨a, vs, w, rfl, rfl, k1, by rw [k2.length]; exact Nat.lt_of_lt_of_le hl (le_line (Nat.le_refl _)), hQ G2 .non .non _ _ ⟨A1.ge.trans A2.ge⟩ (R2.chg hm ?_) (by simp only [Is]) h2⟩
      simp only [MIs]
      exact IsL.append k2 (by simp only [IsL]; exact ⟨iw, trivial⟩)
theorem IsL.set {G : Hp} : ∀ {ds : List D} {vs : List V} {i : Nat} {v : V} {d : D}, IsL M G vs ds → Is M G v d → IsL M G (vs.set i v) (ds.set i d)
  | [], [], _, _, _, h, _ => by simpa using h
  | d :: ds, v :: vs, 0, _, _, h, g => by
    simp only [IsL, List.set_cons_zero] at h ⊢
    exact ⟨g, h.2⟩
  | d :: ds, v :: vs, i + 1, _, _, h, g => by
    simp only [IsL, List.set_cons_succ] at h ⊢
    exact ⟨h.1, IsL.set h.2 g⟩
  | [], _ :: _, _, _, _, h, _ => by simp only [IsL] at h
  | _ :: _, [], _, _, _, h, _ => by simp only [IsL] at h
/-- o[i] = v, o a list that changes -/
def dgIx (fo fi : DTE) : DTG := fun d δ n q => fo δ n (fun x n1 => fi δ n1 (fun y n2 => ∃ a k j xs, x = .ref a ∧ y = .int k ∧ n2.mu a = some (.lst xs) ∧ ixN xs.length k = some j ∧ q δ ⟨n2.at_, mup n2.mu a (some (.lst (xs.set j d)))⟩) noX) noX
theorem dg_ix {o i : Expr} {pos : Pos} {fo fi : DTE} {vs : List Nat} (h : PG X (.Subscript o i pos) (L2.gSub (liftE M W fo) (liftE M W fi) rSetL)) : PG X (.Subscript o i pos) (liftG M vs (dgIx fo fi)) :=
  PGw h fun v σ H Q ⟨pn, G, n, δ, d, q, R, hi, hg, hQ⟩ => by
    refine ⟨pn, G, n, δ, _, noX, R, hg, fun G1 w x n1 H1 A1 R1 i1 h1 => ?_, XEnd.no noX_no⟩
    refine ⟨pn, G1, n1, δ, _, noX, R1, h1, fun G2 u y n2 H2 A2 R2 i2 h2 => ?_, XEnd.no noX_no⟩
    obtain ⟨a, k, j, xs, rfl, rfl, hm, hj, h2⟩ := h2
    simp only [Is] at i1 i2
    subst i1; subst i2
    obtain ⟨u, k1, k2, _, _⟩ := R2.mu a _ hm
    cases u <;> simp only [MIs] at k2
    rename_i us
    refine ⟨a, us, k, j, rfl, rfl, k1, by rw [k2.length]; exact hj, hQ G2 σ δ _ _ ⟨A1.ge.trans A2.ge⟩ (R2.chg hm ?_) rfl h2⟩
    simp only [MIs]
    exact IsL.set k2 (Is.up (A1.ge.trans A2.ge) d v hi)
/-- what a def has made for itself is forgotten at its end -/
def dForg (f : DTS) : DTS := fun k δ n => f { k with nx := fun δ' n' => ∃ n2, NS.Sub n2 n' ∧ k.nx δ' n2, rt := fun d n' => ∃ n2, NS.Sub n2 n' ∧ k.rt d n2, ex := fun δ' C ns xs n' => ∃ n2, NS.Sub n2 n' ∧ k.ex δ' C ns xs n2 } δ n
theorem dss_forg {b : List Stmt} {f : DTS} (h : PSs X b (liftS M W f)) : PSs X b (liftS M W (dForg f)) :=
  PSsw h fun D₀ σ H ⟨pn, G, n, δ, k, R, hf, s⟩ => ⟨pn, G, n, δ, _, R, hf, ⟨fun G' σ' δ' n' H' A' R' ⟨n2, h1, h2⟩ => s.nx G' σ' δ' n2 H' A' (R'.sub h1) h2, fun G' σ' δ' v d n' H' A' R' i' ⟨n2, h1, h2⟩ => s.rt G' σ' δ' v d n2 H' A' (R'.sub h1) i' h2, s.bk, s.ct,
    fun G' σ' δ' C a ns ds n' H' A' R' x' ⟨n2, h1, h2⟩ => s.ex G' σ' δ' C a ns ds n2 H' A' (R'.sub h1) x' h2⟩⟩
theorem sub_mup {t : Nat} {m : Addr → Option MO} {a : Addr} {o : Option MO} (h : m a = none) : NS.Sub ⟨t, m⟩ ⟨t, mup m a o⟩ := ⟨Nat.le_refl _, fun b u e => by
  show mup m a o b = some u
  rw [mup_ne fun z => by rw [z] at e; exact absurd (h.symm.trans e) (fun w => by cases w)]
  exact e⟩
/-! ### name += e, name -= e -/
def dAug (i : Nat) (g : Int → Int → Int) (fe : DTE) : DTS := fun k δ n => ∃ a, δ[i]? = some (some (.int a)) ∧ fe δ n (fun y n1 => ∃ b, y = .int b ∧ k.nx (δ.set i (some (.int (g a b)))) n1) k.ex
theorem ds_aug {st : Stmt} {i : Nat} {g : Int → Int → Int} {fe : DTE} (h : PS X st (tAug i (liftE M W fe) (ipI g))) : PS X st (liftS M W (dAug i g fe)) :=
  PSw h fun D₀ σ H ⟨pn, G, n, δ, k, R, ⟨a, ha, hf⟩, s⟩ => by
    obtain ⟨v, hv, iv⟩ := R.env.get ha
    simp only [Is] at iv
    subst iv
    refine ⟨_, hv, pn, G, n, δ, _, k.ex, R, hf, fun G1 w d n1 H1 A1 R1 i1 h1 => ?_, s.xe⟩
    obtain ⟨b, rfl, h1⟩ := h1
    simp only [Is] at i1
    exact ⟨a, b, rfl, i1, s.nx G1 _ _ n1 H1 A1 (R1.put (by simp only [Is])) h1⟩
/-! ### numbers in texts -/
/-- the decimal digits of a number, as codes -/
def decN (m : Nat) : List Nat := (Nat.toDigits 10 m).map Char.toNat
def decI (i : Int) : List Nat := if i < 0 then 45 :: decN i.natAbs else decN i.natAbs
theorem S_of {x : Str} {l : List Nat} (h : x.cps.toList = l) : x = S l := by
  cases x
  subst h
  rfl
theorem str_int (i : Int) : PySem.Str.ofString (toString i) = S (decI i) := by
  refine S_of ?_
  rw [signs_ofString]
  cases i with
  | ofNat m =>
    have : decI (Int.ofNat m) = decN m := by
      unfold decI
      rw [if_neg (by simp)]
      rfl
    rw [this]
    show (Nat.repr m).toList.map Char.toNat = _
    rw [Nat.toList_repr]
    rfl
  | negSucc m =>
    have : decI (Int.negSucc m) = 45 :: decN (m + 1) := by
      unfold decI
      rw [if_pos (by omega)]
      rfl
    rw [this]
    show ("-" ++ Nat.repr (m + 1)).toList.map Char.toNat = _
    rw [String.toList_append, List.map_append, Nat.toList_repr]
    rfl
def gStr : GC := fun xs n q => match xs with
  | [.int i] => i.natAbs.log2 < 1920 ∧ q (.str (decI i)) n
  | _ => False
theorem drc_str : DRC M (fun xs H Q => ∃ i : Int, xs = [.int i] ∧ i.natAbs.log2 < 1920 ∧ Q (.str (toString i)) H) gStr := by
  intro pn G n σ δ H vs xs q Q R iv h k
  unfold gStr at h
  split at h
  · rename_i i
    obtain ⟨v, rfl, iw⟩ := iv.one
    simp only [Is] at iw
    subst iw
    exact ⟨i, rfl, h.1, k G _ (.str (decI i)) n H Adv.refl R (by simp only [Is]; rw [str_int]) h.2⟩
  · exact h.elim
/-- int of an int, a truth, a text -/
def gIntT : GC := fun xs n q => match xs with
  | [.int i] => q (.int i) n
  | [.bl b] => q (.int (if b then 1 else 0)) n
  | [.str l] => l.length ≤ 640 ∧ ∃ i, PySem.intText? (S l) = some i ∧ q (.int i) n
  | _ => False
theorem drc_intT : DRC M (fun xs H Q => ((∃ i, xs = [.int i] ∧ Q (.int i) H) ∨ ∃ k : Bool, xs = [.bl k] ∧ Q (.int (if k then 1 else 0)) H) ∨ ∃ a i, xs = [.str a] ∧ PySem.intText? a = some i ∧ a.length ≤ 640 ∧ Q (.int i) H) gIntT := by
  intro pn G n σ δ H vs xs q Q R iv h k
  unfold gIntT at h
  split at h
  · rename_i i
    exact .inl (drc_int pn G n σ δ H vs [.int i] q Q R iv h k)
  · rename_i b
    exact .inl (drc_int pn G n σ δ H vs [.bl b] q Q R iv h k)
  · rename_i l
    obtain ⟨v, rfl, iw⟩ := iv.one
    simp only [Is] at iw
    subst iw
    obtain ⟨hl, i, hi, h⟩ := h
    exact .inr ⟨S l, i, rfl, hi, by rw [S_len]; exact hl, k G _ (.int i) n H Adv.refl R (by simp only [Is]) h⟩
  · exact h.elim
theorem cl_intT (hc : X.calm = true) : CallR X (.type "int") (fun xs H Q => ((∃ i, xs = [.int i] ∧ Q (.int i) H) ∨ ∃ k : Bool, xs = [.bl k] ∧ Q (.int (if k then 1 else 0)) H) ∨ ∃ a i, xs = [.str a] ∧ PySem.intText? a = some i ∧ a.length ≤ 640 ∧ Q (.int i) H) := CallR.or call_int1 call_int_str
/-! ### methods of texts -/
def gStarts : GM := fun x xs n q => match x, xs with
  | .str l, [.str b] => q (.bl (decide (l.take b.length = b))) n
  | _, _ => False
theorem starts_S (l b : List Nat) : Txt.startswith (S l) (S b) = decide (l.take b.length = b) := by
  unfold Txt.startswith Builtin.Str.subAt
  rw [S_len, S_len, Nat.zero_add]
  show (decide (b.length ≤ l.length) && (l.toArray.extract 0 b.length == b.toArray)) = _
  by_cases h : l.take b.length = b
  · rw [decide_eq_true h]
    have h1 : b.length ≤ l.length := by
      have := congrArg List.length h
      rw [List.length_take] at this
      omega
    rw [decide_eq_true h1, Bool.true_and]
    simp [h]
  · rw [decide_eq_false h]
    rw [Bool.and_eq_false_iff]
    right
    rw [beq_eq_false_iff_ne]
    intro z
    exact h (by simpa using z)
theorem drm_starts : DRM M (fun x xs H Q => ∃ a b, x = .str a ∧ xs = [.str b] ∧ Q (.bl (Txt.startswith a b)) H) gStarts := by
  intro pn G n σ δ H v vs x xs q Q R iv ivs h k
  unfold gStarts at h
  split at h
  · rename_i l b
    simp only [Is] at iv
    obtain ⟨u, rfl, iu⟩ := ivs.one
    simp only [Is] at iu
    exact ⟨S l, S b, iv, by rw [iu], k G _ (.bl (decide (l.take b.length = b))) n H Adv.refl R (by simp only [Is]; rw [starts_S]) h⟩
  · exact h.elim
/-- text.partition(sign) -/
def partL (c : Nat) (l : List Nat) : List Nat × List Nat × List Nat := if c ∈ l then (l.takeWhile (· != c), [c], (l.dropWhile (· != c)).tail) else (l, [], [])
theorem part_S (l : List Nat) (c : Nat) : Txt.partition (S l) (S [c]) = (S (partL c l).1, S (partL c l).2.1, S (partL c l).2.2) := by
  have h1 := StrLaws.found_one (S l) c
  rw [S_cps] at h1
  unfold partL
  by_cases hc : c ∈ l
  · rw [if_pos hc]
    rw [decide_eq_true hc] at h1
    have he : (Builtin.Str.occurrences (S l) ⟨#[c]⟩ 0 (S l).length 1).isEmpty = false := by simpa using h1
    have h2 := PyProof.Rows.from_first_some (x := S l) (y := ⟨#[c]⟩) (z := ⟨#[c]⟩) rfl rfl he
    have h2' := eq_of_beq h2
    rw [S_cps] at h2'
    cases ho : Builtin.Str.occurrences (S l) ⟨#[c]⟩ 0 (S l).length 1 with
    | nil => rw [ho] at he; simp at he
    | cons i rest =>
      have sp := (StrLaws.occ_spec (S l) ⟨#[c]⟩ 0 (S l).length 1 i (by rw [ho]; exact List.mem_cons_self)).1
      have hp : Txt.partition (S l) ⟨#[c]⟩ = (Builtin.Str.strSub (S l) 0 i, ⟨#[c]⟩, Builtin.Str.strSub (S l) (i + 1) (S l).length) := by
        unfold Txt.partition
        rw [ho]
        rfl
      have sp' : i + 1 ≤ l.length := by
        have : (⟨#[c]⟩ : Str).length = 1 := rfl
        rw [this, S_len] at sp
        exact sp
      have e3 : Builtin.Str.strSub (S l) (i + 1) (S l).length = S (l.drop (i + 1)) := by
        unfold Builtin.Str.strSub
        rw [S_len]
        simp
        rw [List.take_of_length_le (by rw [List.length_drop]; omega)]
      have e1 : Builtin.Str.strSub (S l) 0 i = S (l.take i) := by
        unfold Builtin.Str.strSub
        simp
      rw [hp] at h2'
      rw [e3] at h2'
      have h4 : c :: l.drop (i + 1) = l.dropWhile (· != c) := by
        have : S ([c] ++ l.drop (i + 1)) = S (l.dropWhile (· != c)) := by
          rw [← S_app]
          exact h2'
        exact S_inj.mp this
      have h5 : (l.takeWhile (· != c)).length = i := by
        have z := congrArg List.length (List.takeWhile_append_dropWhile (p := (· != c)) (l := l))
        rw [List.length_append, ← h4, List.length_cons, List.length_drop] at z
        omega
      have h6 : l.take i = l.takeWhile (· != c) := by
        have z := List.takeWhile_append_dropWhile (p := (· != c)) (l := l)
        have y : l.take i = (l.takeWhile (· != c) ++ l.dropWhile (· != c)).take i := by rw [z]
        rw [y, List.take_append_of_le_length (by omega), List.take_of_length_le (by omega)]
      show Txt.partition (S l) ⟨#[c]⟩ = _
      rw [hp, e1, e3, h6, ← h4]
      rfl
  · rw [if_neg hc]
    rw [decide_eq_false hc] at h1
    have he : (Builtin.Str.occurrences (S l) ⟨#[c]⟩ 0 (S l).length 1).isEmpty = true := by simpa using h1
    show Txt.partition (S l) ⟨#[c]⟩ = _
    unfold Txt.partition
    cases ho : Builtin.Str.occurrences (S l) ⟨#[c]⟩ 0 (S l).length 1 with
    | nil => rfl
    | cons i rest => rw [ho] at he; simp at he
def gPart : GM := fun x xs n q => match x, xs with
  | .str l, [.str [c]] => l.length ≤ 100000 ∧ q (.tup [.str (partL c l).1, .str (partL c l).2.1, .str (partL c l).2.2]) n
  | _, _ => False
theorem drm_part : DRM M (fun x xs H Q => ∃ a b, x = .str a ∧ xs = [.str b] ∧ (b.length == 0) = false ∧ a.length ≤ sizeLine ∧ ∀ p, H p = none → Q (.ref p) (upd H p (.tup [.str (Txt.partition a b).1, .str (Txt.partition a b).2.1, .str (Txt.partition a b).2.2]))) gPart := by
  intro pn G n σ δ H v vs x xs q Q R iv ivs h k
  unfold gPart at h
  split at h
  · rename_i l c
    simp only [Is] at iv
    obtain ⟨u, rfl, iu⟩ := ivs.one
    simp only [Is] at iu
    refine ⟨S l, S [c], iv, by rw [iu], rfl, by rw [S_len]; exact le_line h.1, fun p hp => ?_⟩
    rw [part_S]
    obtain ⟨R2, A2⟩ := R.lay (o := .tup [.str (S (partL c l).1), .str (S (partL c l).2.1), .str (S (partL c l).2.2)]) hp notTbl_tup
    exact k _ _ _ n _ A2 R2 (by simp only [Is]; exact ⟨p, _, rfl, SqT.of upd_same, by simp only [IsL, Is]; exact ⟨trivial, trivial, trivial, trivial⟩⟩) h.2
  · exact h.elim
theorem pe_startsX {o e : Expr} {to te : TE} {apos pos : Pos} (ho : PE X o to) (he : PE X e te) (hs : starEach [e] X.env = [(false, eval e X.env)] := by rfl) (hbase : attributeBase o "startswith" X.env (eval o X.env) = eval o X.env := by rfl) (hline : (apos.endLine == pos.line) = true := by rfl) :
    PE X (.Call (.Attribute o "startswith" apos) [e] [] pos) (tM1 (fun x xs H Q => ∃ a b, x = .str a ∧ xs = [.str b] ∧ Q (.bl (Txt.startswith a b)) H) to te) :=
  pe_m1 F.slot_str_startswith F.type_str_startswith mt_startswith ho he hs hbase hline
end
end DL

set_option Elab.async false
set_option linter.all false
set_option maxRecDepth 100000
set_option maxHeartbeats 4000000
set_option autoImplicit false
/-! sorted(l, key = lambda x: ..): two items, keys that are pairs of an int and a truth. -/
namespace SKy
open PySem PySem.Spec PyProof.Rows L2 SrtO
/-- v is a tuple of an int and a truth in the heap -/
def IsPB (h : Heap) (v : Value) (x : Int) (b : Bool) : Prop := ∃ a o t n, v = .ref a ∧ h.get? a = some o ∧ o.cls = .type "tuple" ∧ o.data = .seq #[.int x t, .bool b] n
theorem IsPB.keeps {h h' : Heap} {v : Value} {x : Int} {b : Bool} (p : IsPB h v x b) (k : ∀ b o, h.get? b = some o → o.cls = .type "tuple" → h'.get? b = some o) : IsPB h' v x b := by
  obtain ⟨a, o, t, n, e, ho, hc, hd⟩ := p
  exact ⟨a, o, t, n, e, k _ _ ho hc, hc, hd⟩
abbrev kz (k : Value → Int × Bool) (v : Value) : Int × Int := ((k v).1, b2i (k v).2)
section
variable {prog : Program} {w : World} {A : Around} {E : Value → Shared → Prop} {s : Shared}
theorem pb_cmp {vs : List Value} {k : Value → Int × Bool} (hp : ∀ v ∈ vs, IsPB s.heap v (k v).1 (k v).2) : Cmp prog w A s (tuples' true) (fun p => p.1 ∈ vs) (lt2 fun v u => lexB (kz k v) (kz k u)) := by
  intro p q hm hm'
  have h1 := hp _ hm
  have h2 := hp _ hm'
  show wpAny (model prog w) A (keyLt' (tuples' true) p.1 q.1) (fun r s' => s' = s ∧ r = lexB (kz k p.1) (kz k q.1)) (fun _ _ => False) s
  unfold lexB kz
  generalize (k p.1).1 = x at h1 ⊢
  generalize (k p.1).2 = y at h1 ⊢
  generalize (k q.1).1 = x' at h2 ⊢
  generalize (k q.1).2 = y' at h2 ⊢
  obtain ⟨a, o, t, n, e, ho, hc, hd⟩ := h1
  obtain ⟨a', o', t', n', e', ho', hc', hd'⟩ := h2
  rw [e, e']
  refine PySem.W.kat_lt ho hd ho' hd' ?_
  show PySem.W.KatLex prog w A true (decide (2 < 2)) _ [(.int x t, .int x' t'), (.bool y, .bool y')] 0 s
  refine PySem.W.kat_cons (SeqAt.EqAt.int_int x t x' t' prog w _ _ ?_)
  refine PySem.W.kat_go (fun e1 => ?_) (fun e1 => ?_)
  · have ex : x = x' := by simpa using e1
    refine PySem.W.kat_yes (PySem.W.kat_cons (SeqAt.EqAt.bool_bool y y' prog w _ _ ?_))
    refine PySem.W.kat_go (fun e2 => ?_) (fun e2 => ?_)
    · have ey : y = y' := by simpa using e2
      have e3 : (if x = x' then decide (b2i y < b2i y') else decide (x < x')) = false := by
        rw [if_pos ex, ey]
        exact decide_eq_false (Int.lt_irrefl _)
      exact PySem.W.kat_yes (PySem.W.kat_nil ⟨rfl, e3.symm⟩)
    · have e3 : (if x = x' then decide (b2i y < b2i y') else decide (x < x')) = decide (b2i y < b2i y') := if_pos ex
      refine PySem.W.kat_no (PySem.W.kat_one _ _ (PyProof.Rows.lt_bool ?_))
      exact (show s = s ∧ decide (b2i y < b2i y') = (if x = x' then decide (b2i y < b2i y') else decide (x < x')) from ⟨rfl, e3.symm⟩)
  · have ex : ¬ x = x' := by simpa using e1
    have e3 : (if x = x' then decide (b2i y < b2i y') else decide (x < x')) = decide (x < x') := if_neg ex
    exact PySem.W.kat_no (oneLt_int ⟨rfl, e3.symm⟩)
theorem pb_kind {v1 v2 : Value} {x1 x2 : Int} {b1 b2 : Bool} {Q : SortKind → Shared → Prop} (h1 : IsPB s.heap v1 x1 b1) (h2 : IsPB s.heap v2 x2 b2) (h : Q (tuples' true) s) : wpAny (model prog w) A (keyKind' #[v1, v2]) Q E s := by
  obtain ⟨a, o, t, n, rfl, ho, hc, hd⟩ := h1
  obtain ⟨a', o', t', n', rfl, ho', hc', hd'⟩ := h2
  refine PySem.W.kat_kind (vs := [.ref a, .ref a']) (fs := [.int x1 t, .int x2 t']) (T := .type "int") (.cons ho hc hd rfl (.cons ho' hc' hd' rfl .nil)) (by simp) (fun f hm => ?_) (by rfl) ?_
  · simp only [List.mem_cons, List.not_mem_nil, or_false] at hm
    rcases hm with rfl | rfl <;> exact PySem.W.Looks.now
  · have e : (Value.type "int" != Value.type "tuple") = true := by first | decide +kernel | rfl | decide
    rw [e]
    exact h
end
theorem two_out {α : Type} {lt : α → α → Bool} (O : Swo lt) {p q : α} {out : List α} (hs : Srtd lt out) (hb : Stb lt out [p, q]) : out = if lt q p then [q, p] else [p, q] := by
  cases e : lt q p with
  | true =>
    rw [if_pos rfl]
    refine stb_uniq O hs ?_ (hb.trans ?_)
    · refine List.pairwise_cons.mpr ⟨fun y hy => ?_, List.pairwise_singleton _ _⟩
      rw [List.mem_singleton.mp hy]
      exact O.asym _ _ e
    · have z : Stb lt ([q] ++ [p]) ([p] ++ [q]) := Stb.swap O fun a ha b hb => by
        rw [List.mem_singleton.mp ha, List.mem_singleton.mp hb]
        exact e
      exact ⟨z.perm.symm, fun x => (z.cls x).symm⟩
  | false =>
    rw [if_neg (by simp)]
    refine stb_uniq O hs ?_ hb
    refine List.pairwise_cons.mpr ⟨fun y hy => ?_, List.pairwise_singleton _ _⟩
    rw [List.mem_singleton.mp hy]
    exact e

section
variable {X : Cx} {pins : List (Addr × Obj)} {σ : L2.St} {H : Hp} {s : Shared} {A : Around} {E : Value → Shared → Prop}
/-- what a key is -/
def KeyV (X : Cx) (H : Hp) (u : Value) (k : Int × Bool) : Prop := ∃ t, u = .ref t ∧ SqT X.K H t [.int k.1, .bl k.2]
def Ext' (H H' : Hp) : Prop := ∀ b o, H b = some o → H' b = some o
theorem KeyV.ext {H H' : Hp} {u : Value} {k : Int × Bool} (h : KeyV X H u k) (e : Ext' H H') : KeyV X H' u k := by
  obtain ⟨t, h1, h2⟩ := h
  exact ⟨t, h1, DL.Ext.seqT e h2⟩
theorem KeyV.pb {u : Value} {k : Int × Bool} (I : Inv X pins σ H s) (h : KeyV X H u k) : IsPB s.heap u k.1 k.2 := by
  obtain ⟨t, rfl, h⟩ := h
  obtain ⟨its, r, ⟨o, ho, hc, n, hd⟩, _⟩ := I.tuple h
  cases r with
  | cons r1 r =>
    cases r with
    | cons r2 r =>
      cases r
      obtain ⟨tk, rfl⟩ := r1
      cases (show _ = Value.bool k.2 from r2)
      exact ⟨t, o, tk, n, rfl, ho, hc, hd⟩
theorem KeyV.inj {u : Value} {k k' : Int × Bool} (I : Inv X pins σ H s) (h : KeyV X H u k) (h' : KeyV X H u k') : k = k' := by
  obtain ⟨t, rfl, h⟩ := h
  obtain ⟨t', e, h'⟩ := h'
  cases e
  have z := I.tuple_inj h h'
  simp only [List.cons.injEq, V.int.injEq, V.bl.injEq, and_true] at z
  exact Prod.ext z.1 z.2
/-- the sort itself: keys q1, q2 of v1, v2 stand in the list at kS -/
theorem sk_end {a kS : Addr} {v1 v2 q1 q2 : Value} {k1 k2 : Int × Bool} {e e1 : Nat} {P : PySem.Fin → Shared → Prop} (I : Inv X pins σ H s) (fa : FpOk X pins H a) (fk : FpOk X pins H kS) (hka : kS ≠ a)
    (ha : s.heap.get? a = some (seqObj "list" #[] e1)) (hk : s.heap.get? kS = some (seqObj "list" #[q1, q2] e)) (h1 : KeyV X H q1 k1) (h2 : KeyV X H q2 k2)
    (h : ∀ s' n, Inv X pins σ H s' → s'.heap.get? a = some (seqObj "list" (if lexB (k2.1, b2i k2.2) (k1.1, b2i k1.2) then #[v2, v1] else #[v1, v2]) n) → P (.done (.ret .none)) s') :
    wpAny (model X.prog X.w) A (ksk_end a false #[v1, v2] e1 (.ref kS) #[q1, q2]) P E s := by
  unfold ksk_end
  try dsimp only
  rw [if_neg (by simp), if_neg (by simp)]
  refine wpAny_bind (pb_kind (h1.pb I) (h2.pb I) ?_)
  obtain ⟨k, e1', e2'⟩ : ∃ k : Value → Int × Bool, k q1 = k1 ∧ k q2 = k2 := by
    by_cases z : q1 = q2
    · subst z
      exact ⟨fun _ => k1, rfl, h1.inj I h2⟩
    · exact ⟨fun v => if v = q1 then k1 else k2, if_pos rfl, if_neg (Ne.symm z)⟩
  have hT : Cmp X.prog X.w A s (tuples' true) (fun p => p.1 ∈ [q1, q2]) (lt2 fun v u => lexB (kz k v) (kz k u)) := pb_cmp fun v hv => by
    simp only [List.mem_cons, List.not_mem_nil, or_false] at hv
    rcases hv with rfl | rfl
    · rw [e1']; exact h1.pb I
    · rw [e2']; exact h2.pb I
  have ez : (arrOf (SortSt.mk' (tuples' true) (#[q1, q2].zip #[v1, v2]) #[] 7 none)).toList = [(q1, v1), (q2, v2)] := by
    show (#[q1, q2].zip #[v1, v2]).toList = _
    simp
  refine wpAny_bind (wpAny_mono (wpS_sortO (st0 := SortSt.mk' (tuples' true) (#[q1, q2].zip #[v1, v2]) #[] 7 none)
    (Q := fun _ st' => Srtd (lt2 fun v u => lexB (kz k v) (kz k u)) (arrOf st').toList ∧ Stb (lt2 fun v u => lexB (kz k v) (kz k u)) (arrOf st').toList [(q1, v1), (q2, v2)] ∧ failedOf st' = none) (swo2 (swo_lex (kz k))) hT rfl (fun p hp => ?_) rfl rfl fun st' a1 a2 a3 => ⟨a1, by rw [ez] at a2; exact a2, a3⟩) ?_ fun _ _ e => e)
  · have hp' : p ∈ [(q1, v1), (q2, v2)] := by
      rw [ez] at hp
      exact hp
    simp only [List.mem_cons, List.not_mem_nil, or_false] at hp' ⊢
    rcases hp' with rfl | rfl
    · exact .inl rfl
    · exact .inr rfl
  rintro ⟨⟨⟩, st'⟩ s' ⟨rfl, hs, hb, hf⟩
  try dsimp only
  have out := two_out (swo2 (swo_lex (kz k))) hs hb
  have out2 : (arrOf st').map (·.2) = if lexB (k2.1, b2i k2.2) (k1.1, b2i k1.2) then #[v2, v1] else #[v1, v2] := by
    have z : ((arrOf st').map (·.2)).toList = (if lexB (k2.1, b2i k2.2) (k1.1, b2i k1.2) then #[v2, v1] else #[v1, v2] : Array Value).toList := by
      rw [Array.toList_map, out]
      show List.map _ (if lexB (kz k q2) (kz k q1) = true then _ else _) = _
      rw [show kz k q2 = (k2.1, b2i k2.2) by unfold kz; rw [e2'], show kz k q1 = (k1.1, b2i k1.2) by unfold kz; rw [e1']]
      split <;> rfl
    rw [← Array.toArray_toList (xs := (arrOf st').map (·.2)), z]
  unfold ksk_tail
  try dsimp only
  have na1 : (s'.heap.update kS (Obj.mapSeq fun _ => (#[] : Array Value))).get? a = some (seqObj "list" #[] e1) := (Heap.get?_update_ne _ _ _ _ hka.symm).trans ha
  refine wpAny_bind (listUpdate_at hk rfl ?_ (by rw [sizeLine_eq]; simp) (Nat.zero_le _))
  refine wpAny_bind (wpAny_letGo ?_)
  refine wpAny_bind (seqEpoch_at na1 rfl ?_)
  have hsz : (if lexB (k2.1, b2i k2.2) (k1.1, b2i k1.2) then #[v2, v1] else #[v1, v2] : Array Value).size ≤ sizeLine + 1 := by
    rw [sizeLine_eq]
    split <;> simp
  simp only [Bool.false_eq_true, if_false]
  rw [out2]
  refine wpAny_bind (listUpdate_at na1 rfl ?_ (Nat.zero_le _) hsz)
  rw [hf]
  simp only [bne_self_eq_false, Bool.false_eq_true, if_false]
  obtain ⟨n, hn⟩ : ∃ n, ((s'.heap.update kS (Obj.mapSeq fun _ => (#[] : Array Value))).update a (Obj.mapSeq fun _ => if lexB (k2.1, b2i k2.2) (k1.1, b2i k1.2) then #[v2, v1] else #[v1, v2])).get? a = some (seqObj "list" (if lexB (k2.1, b2i k2.2) (k1.1, b2i k1.2) then #[v2, v1] else #[v1, v2]) n) :=
    ⟨_, get?_update_seq na1 fun _ => if lexB (k2.1, b2i k2.2) (k1.1, b2i k1.2) then #[v2, v1] else #[v1, v2]⟩
  refine wpAny_pure (h _ n (Inv.turnedL (t' := s'.toks) (ch := [kS, a]) I (fun b o hb q => ?_) fun b hb => ?_) hn)
  · simp only [List.mem_cons, List.not_mem_nil, or_false, not_or] at hb
    exact (Heap.get?_update_ne _ _ _ _ hb.2).trans ((Heap.get?_update_ne _ _ _ _ hb.1).trans q)
  · simp only [List.mem_cons, List.not_mem_nil, or_false] at hb
    rcases hb with rfl | rfl
    · exact fk
    · exact fa
/-- what a pinned thing must be -/
def PinB (X : Cx) (H : Hp) (b : Addr) : Prop := H b = none ∧ b ≠ X.env.locals ∧ b ∉ X.fs
theorem pinB_of {pl : List (Addr × Obj)} {H1 : Hp} {s1 : Shared} {b : Addr} {o : Obj} (I : Inv X (pins ++ pl) σ H1 s1) (m : (b, o) ∈ pl) : PinB X H1 b ∧ s1.heap.get? b = some o := by
  obtain ⟨z1, z2, z3, z4, _⟩ := I.pin (b, o) (List.mem_append_right _ (List.mem_append_right _ m))
  exact ⟨⟨z2, z3, z4⟩, z1⟩
theorem pin3 {fp : List Addr} (I : Inv X pins σ H s) (hf : ∀ b ∈ fp, PinB X H b) (ho : ∀ b ∈ fp, ∃ o, s.heap.get? b = some o ∧ ∀ v, o.data ≠ .cell v) : Inv X (pins ++ pinsAt fp s.heap) σ H s :=
  I.pins_of fun p hp => (List.mem_append.mp hp).elim (fun z => I.pin p (List.mem_append_right _ z)) fun z => by
    obtain ⟨hb, e⟩ := of_pinsAt z
    obtain ⟨f0, f1, f2⟩ := hf p.1 hb
    obtain ⟨o, e', d⟩ := ho p.1 hb
    rw [e] at e'
    cases e'
    exact ⟨e, f0, f1, f2, d⟩
theorem FpOk.pb {b : Addr} (f : FpOk X pins H b) : PinB X H b := ⟨f.1, f.2.1, f.2.2.1⟩
theorem fp_of {pl : List (Addr × Obj)} {H1 : Hp} {s1 : Shared} {b : Addr} {o : Obj} (f : FpOk X pins H b) (I : Inv X (pins ++ pl) σ H1 s1) (m : (b, o) ∈ pl) : FpOk X pins H1 b ∧ s1.heap.get? b = some o := by
  obtain ⟨z1, z2, z3, z4, _⟩ := I.pin (b, o) (List.mem_append_right _ (List.mem_append_right _ m))
  exact ⟨⟨z2, z3, z4, f.2.2.2⟩, z1⟩
/-- the loop over the items, and what follows -/
theorem sk_rest {T : Hp → Hp → Prop} {G : Hp} {a kS f : Addr} {fo : Obj} {v1 v2 : Value} {k1 k2 : Int × Bool} {e e1 : Nat} {P : PySem.Fin → Shared → Prop} (I : Inv X pins σ H s) (fa : FpOk X pins H a) (fk : FpOk X pins H kS) (ff : PinB X H f) (hka : kS ≠ a) (hkf : kS ≠ f)
    (ha : s.heap.get? a = some (seqObj "list" #[] e1)) (hk : s.heap.get? kS = some (seqObj "list" #[] e)) (hf : s.heap.get? f = some fo) (hc : ∀ v, fo.data ≠ .cell v)
    (hT : ∀ G H, T G H → Ext' G H) (t0 : T G H)
    (turn : ∀ v k, (v, k) ∈ [(v1, k1), (v2, k2)] → ∀ pl G1 H1 s1, Inv X (pins ++ pl) σ H1 s1 → T G1 H1 → Ext' G G1 → (f, fo) ∈ pl → wpAny (model X.prog X.w) A (call (.ref f) [v]) (fun r s2 => ∃ G2 H2, Inv X (pins ++ pl) σ H2 s2 ∧ T G2 H2 ∧ Ext' G1 G2 ∧ KeyV X G2 r k) (fun _ _ => False) s1)
    (h : ∀ G' H' s' n, Inv X pins σ H' s' → T G' H' → Ext' G G' → s'.heap.get? a = some (seqObj "list" (if lexB (k2.1, b2i k2.2) (k1.1, b2i k1.2) then #[v2, v1] else #[v1, v2]) n) → FpOk X pins H' a → P (.done (.ret .none)) s') :
    wpAny (model X.prog X.w) A (ksk_rest a (.ref f) false #[v1, v2] e1 (.ref kS)) P E s := by
  unfold ksk_rest
  refine wpAny_bind (wpAny_rule ?_)
  rw [← Array.forIn_toList]
  refine wpAny_bind (ksk_fold (fun i s' => ∃ G1 H1 ks e', Inv X pins σ H1 s' ∧ T G1 H1 ∧ Ext' G G1 ∧ FpOk X pins H1 a ∧ FpOk X pins H1 kS ∧ PinB X H1 f ∧ s'.heap.get? a = some (seqObj "list" #[] e1) ∧ s'.heap.get? kS = some (seqObj "list" ks e') ∧ s'.heap.get? f = some fo ∧
    ks.size = i ∧ ∀ j k, j < i → [k1, k2][j]? = some k → ∃ q, ks[j]? = some q ∧ KeyV X G1 q k) [v1, v2] 0 s ⟨G, H, #[], e, I, t0, fun _ _ z => z, fa, fk, ff, ha, hk, hf, rfl, fun j k z => absurd z (Nat.not_lt_zero _)⟩ ?step ?done)
  case step =>
    rintro j x s' hx ⟨G1, H1, ks, e', I1, t1, x1, fa1, fk1, ff1, ha1, hk1, hf1, hz, hq⟩
    simp only [Nat.zero_add] at hz hq ⊢
    have hj : j < 2 := (List.getElem?_eq_some_iff.mp hx).1
    obtain ⟨k, hkj⟩ : ∃ k, [k1, k2][j]? = some k := ⟨_, List.getElem?_eq_getElem (by simpa using hj)⟩
    have hm : (x, k) ∈ [(v1, k1), (v2, k2)] := by
      match j, hj, hx, hkj with
      | 0, _, hx, hkj => cases hx; cases hkj; simp
      | 1, _, hx, hkj => cases hx; cases hkj; simp
    have I2 := pin3 (fp := [f, a, kS]) I1 (fun b hb => by
      simp only [List.mem_cons, List.not_mem_nil, or_false] at hb
      rcases hb with rfl | rfl | rfl
      · exact ff1
      · exact FpOk.pb fa1
      · exact FpOk.pb fk1) (fun b hb => by
      simp only [List.mem_cons, List.not_mem_nil, or_false] at hb
      rcases hb with rfl | rfl | rfl
      · exact ⟨_, hf1, hc⟩
      · exact ⟨_, ha1, fun v z => by cases z⟩
      · exact ⟨_, hk1, fun v z => by cases z⟩)
    refine wpAny_bind (wpAny_attempt (wpAny_mono (turn x k hm _ G1 H1 s' I2 t1 x1 (mem_pinsAt (by simp) hf1)) (fun r s2 he => ?_) fun _ _ hF => hF.elim))
    obtain ⟨G2, H2, I3, t2, x2, kq⟩ := he
    obtain ⟨fa2, ha2⟩ := fp_of fa1 I3 (mem_pinsAt (by simp) ha1)
    obtain ⟨fk2, hk2⟩ := fp_of fk1 I3 (mem_pinsAt (by simp) hk1)
    obtain ⟨ff2, hf2⟩ := pinB_of I3 (mem_pinsAt (by simp) hf1)
    try dsimp only
    obtain ⟨c2, hc2⟩ : ∃ c2, (s2.heap.update kS (Obj.mapSeq (·.push r))).get? kS = some (seqObj "list" (ks.push r) c2) := ⟨_, get?_update_seq hk2 (·.push r)⟩
    refine wpAny_bind (listUpdate_at hk2 rfl ?_ (by rw [sizeLine_eq]; omega) (Nat.le_trans (Nat.le_of_eq (Array.size_push ..)) (by rw [sizeLine_eq]; omega)))
    refine wpAny_pure ⟨rfl, G2, H2, ks.push r, c2, Inv.turnedL (t' := s2.toks) (ch := [kS]) I3.unpinned (fun b o hb q => ?_) (fun b hb => ?_), t2, fun b o z => x2 b o (x1 b o z), fa2, fk2, ff2, (Heap.get?_update_ne _ _ _ _ hka.symm).trans ha2, hc2, (Heap.get?_update_ne _ _ _ _ hkf.symm).trans hf2, by rw [Array.size_push, hz], fun i k' hi hk' => ?_⟩
    · exact (Heap.get?_update_ne _ _ _ _ (by simpa using hb)).trans q
    · rw [List.mem_singleton.mp hb]
      exact fk2
    · by_cases z : i = j
      · subst z
        rw [hkj] at hk'
        cases hk'
        exact ⟨r, by rw [← hz, Array.getElem?_push_size], kq⟩
      · obtain ⟨q, q1, q2⟩ := hq i k' (by omega) hk'
        exact ⟨q, by rw [Array.getElem?_push_lt (by omega)]; rw [Array.getElem?_eq_getElem (by omega)] at q1; exact q1, q2.ext x2⟩
  case done =>
    rintro s' ⟨G1, H1, ks, e', I1, t1, x1, fa1, fk1, ff1, ha1, hk1, hf1, hz, hq⟩
    simp only [List.length_cons, List.length_nil, Nat.zero_add] at hz hq
    obtain ⟨q1, a1, b1⟩ := hq 0 k1 (by decide) rfl
    obtain ⟨q2, a2, b2⟩ := hq 1 k2 (by decide) rfl
    obtain rfl : ks = #[q1, q2] := by
      match ks, hz, a1, a2 with
      | ⟨[x, y]⟩, _, a1, a2 =>
        simp at a1 a2
        rw [a1, a2]
    try dsimp only
    refine wpAny_bind (listItems_at hk1 rfl ?_)
    exact sk_end I1 fa1 fk1 hka ha1 hk1 (b1.ext (hT _ _ t1)) (b2.ext (hT _ _ t1)) fun s2 n I2 z => h G1 H1 s2 n I2 t1 x1 z fa1
theorem sk_tree {T : Hp → Hp → Prop} {G : Hp} {a f : Addr} {fo : Obj} {v1 v2 : Value} {k1 k2 : Int × Bool} {n : Nat} {P : PySem.Fin → Shared → Prop} (I : Inv X pins σ H s) (fa : FpOk X pins H a) (ff : PinB X H f) (haf : f ≠ a)
    (ha : s.heap.get? a = some (seqObj "list" #[v1, v2] n)) (hf : s.heap.get? f = some fo) (hc : ∀ v, fo.data ≠ .cell v)
    (hT : ∀ G H, T G H → Ext' G H) (t0 : T G H)
    (turn : ∀ v k, (v, k) ∈ [(v1, k1), (v2, k2)] → ∀ pl G1 H1 s1, Inv X (pins ++ pl) σ H1 s1 → T G1 H1 → Ext' G G1 → (f, fo) ∈ pl → wpAny (model X.prog X.w) A (call (.ref f) [v]) (fun r s2 => ∃ G2 H2, Inv X (pins ++ pl) σ H2 s2 ∧ T G2 H2 ∧ Ext' G1 G2 ∧ KeyV X G2 r k) (fun _ _ => False) s1)
    (h : ∀ G' H' s' n, Inv X pins σ H' s' → T G' H' → Ext' G G' → s'.heap.get? a = some (seqObj "list" (if lexB (k2.1, b2i k2.2) (k1.1, b2i k1.2) then #[v2, v1] else #[v1, v2]) n) → FpOk X pins H' a → P (.done (.ret .none)) s') :
    wpAny (model X.prog X.w) A (ksk_tree a (.ref f) false) P E s := by
  have ha' : a < s.heap.objs.size := Heap.lt_size ha
  have hf' : f < s.heap.objs.size := Heap.lt_size hf
  obtain ⟨e1, ho1⟩ : ∃ e1, (s.heap.update a (Obj.mapSeq fun _ => (#[] : Array Value))).get? a = some (seqObj "list" #[] e1) := ⟨_, get?_update_seq ha fun _ => #[]⟩
  have hkS : ((s.heap.update a (Obj.mapSeq fun _ => (#[] : Array Value))).push (seqObj "tuple" #[v1, v2] 0)).objs.size = s.heap.objs.size + 1 := by rw [size_push', Heap.size_update]
  have keep : ∀ b o, b ≠ a → s.heap.get? b = some o → (((s.heap.update a (Obj.mapSeq fun _ => (#[] : Array Value))).push (seqObj "tuple" #[v1, v2] 0)).push (seqObj "list" #[] 0)).get? b = some o := fun b o hb q =>
    Heap.get?_push_of_some _ (Heap.get?_push_of_some _ ((Heap.get?_update_ne _ _ _ _ hb).trans q))
  unfold ksk_tree
  refine wpAny_bind (listItems_at ha rfl ?_)
  refine wpAny_bind (listUpdate_at ha rfl ?_ (by rw [sizeLine_eq]; simp) (Nat.zero_le _))
  refine wpAny_bind (seqEpoch_at ho1 rfl ?_)
  refine wpAny_bind (wpAny_newTuple ?_ (by show 2 ≤ _; rw [sizeLine_eq]; omega))
  refine wpAny_bind (wpAny_newList ?_ (Nat.zero_le _))
  refine wpAny_holding ?_
  have I1 : Inv X pins σ H { s with heap := ((s.heap.update a (Obj.mapSeq fun _ => (#[] : Array Value))).push (seqObj "tuple" #[v1, v2] 0)).push (seqObj "list" #[] 0) } :=
    Inv.turnedL (t' := s.toks) (ch := [a]) I (fun b o hb q => keep b o (by simpa using hb) q) fun b hb => by
      rw [List.mem_singleton.mp hb]
      exact fa
  have fk : FpOk X pins H (s.heap.objs.size + 1) := I.fpOk (Nat.le_succ _) (I.hok.fresh (Nat.le_succ _))
  refine sk_rest (kS := ((s.heap.update a (Obj.mapSeq fun _ => (#[] : Array Value))).push (seqObj "tuple" #[v1, v2] 0)).objs.size) (e := 0) I1 fa (by rw [hkS]; exact fk) ff (by rw [hkS]; exact Nat.ne_of_gt (Nat.lt_succ_of_lt ha')) (by rw [hkS]; exact Nat.ne_of_gt (Nat.lt_succ_of_lt hf')) (Heap.get?_push_of_some _ (Heap.get?_push_of_some _ ho1)) (Heap.get?_push_size _ rfl) (keep f _ haf hf) hc hT t0 turn h
/-- sorted(l, key = f) -/
theorem sk_sorted {T : Hp → Hp → Prop} {G : Hp} {l f : Addr} {fo : Obj} {v1 v2 : Value} {k1 k2 : Int × Bool} {E : Value → Shared → Prop} {Q : Value → Shared → Prop} (I : Inv X pins σ H s) (hl : s.heap.IsList l #[v1, v2]) (ff : PinB X H f) (hf : s.heap.get? f = some fo) (hc : ∀ v, fo.data ≠ .cell v)
    (hT : ∀ G H, T G H → Ext' G H) (t0 : T G H)
    (turn : ∀ v k, (v, k) ∈ [(v1, k1), (v2, k2)] → ∀ pl G1 H1 s1, Inv X (pins ++ pl) σ H1 s1 → T G1 H1 → Ext' G G1 → (f, fo) ∈ pl → wpAny (model X.prog X.w) A.in1.in1 (call (.ref f) [v]) (fun r s2 => ∃ G2 H2, Inv X (pins ++ pl) σ H2 s2 ∧ T G2 H2 ∧ Ext' G1 G2 ∧ KeyV X G2 r k) (fun _ _ => False) s1)
    (h : ∀ d G' H' s' n, Inv X pins σ H' s' → T G' H' → Ext' G G' → s'.heap.get? d = some (seqObj "list" (if lexB (k2.1, b2i k2.2) (k1.1, b2i k1.2) then #[v2, v1] else #[v1, v2]) n) → FpOk X pins H' d → Q (.ref d) s') :
    wpAny (model X.prog X.w) A (call (.builtin "sorted") [.ref l] [(Str.ofString "key", .ref f)]) Q E s := by
  refine call_function_entry_kw kind_sorted plain_sorted entry_sorted (ksk_s1 _ _) ?_
  unfold Builtin.«sorted»
  refine wpAny_bind (m := checkCount "sorted" 1 1 _) (wpAny_pure ?_)
  refine wpAny_bind (collect_list (vs := [v1, v2]) hl ?_ (by rw [sizeLine_eq]; simp))
  refine wpAny_bind (wpAny_newList ?_ (by rw [sizeLine_eq]; simp))
  have hsz : ((s.heap.push (seqObj "list" #[] 0)).update s.heap.objs.size (Obj.mapSeq (· ++ #[v1, v2]))).objs.size = s.heap.objs.size + 1 := by
    rw [Heap.size_update, size_push']
  have hoL : (((s.heap.push (seqObj "list" #[] 0)).update s.heap.objs.size (Obj.mapSeq (· ++ #[v1, v2]))).push (seqObj "list" #[v1, v2] 0)).get? (s.heap.objs.size + 1) = some (seqObj "list" #[v1, v2] 0) := by
    rw [← hsz]; exact Heap.get?_push_size _ rfl
  have keep : ∀ b o, s.heap.get? b = some o → (((s.heap.push (seqObj "list" #[] 0)).update s.heap.objs.size (Obj.mapSeq (· ++ #[v1, v2]))).push (seqObj "list" #[v1, v2] 0)).get? b = some o := fun b o q => by
    have hlt : b < s.heap.objs.size := Heap.lt_size q
    rw [Heap.get?_push_ne _ _ _ (by rw [hsz]; exact Nat.ne_of_lt (Nat.lt_succ_of_lt hlt)), Heap.get?_update_ne _ _ _ _ (Nat.ne_of_lt hlt), Heap.get?_push_ne _ _ _ (Nat.ne_of_lt hlt)]
    exact q
  show wpAny _ _ _ _ _ { s with heap := ((s.heap.push (seqObj "list" #[] 0)).update s.heap.objs.size (Obj.mapSeq (· ++ #[v1, v2]))).push (seqObj "list" #[v1, v2] 0) }
  rw [hsz]
  refine wpAny_bind (wpAny_holding (wpAny_call_entry_kw slot_list_sort ⟨_, hoL, rfl⟩ entry_list_sort ?body (ksk_l1 _ _)))
  case body =>
    show wpAny (model X.prog X.w) A.in1.in1 (Builtin.«list.sort» ⟨[.ref (s.heap.objs.size + 1)], [(Str.ofString "key", .ref f)]⟩) _ _ _
    rw [ksk_t1]
    have I1 := Inv.kept (t' := s.toks) I keep
    refine sk_tree I1 (I.fpOk (Nat.le_succ _) (I.hok.fresh (Nat.le_succ _))) ff (Nat.ne_of_lt (Nat.lt_succ_of_lt (Heap.lt_size hf))) hoL (keep _ _ hf) hc hT t0 turn fun G' H' s' n I2 t2 x2 hd fd => ⟨_, rfl, ?_⟩
    exact wpAny_pure ⟨_, rfl, h _ G' H' s' n I2 t2 x2 hd fd⟩
end
end SKy

namespace SKy
open PySem PySem.Spec PyProof.Rows L2 SrtO
theorem clo_nil {cells : List (Str × Addr)} : ∀ {l : List (Str × NameKind)} {acc : List (Str × Addr)}, (∀ y ∈ l, y.2 ≠ .free) → cloFrom cells l acc = acc
  | [], _, _ => rfl
  | (n, k) :: r, acc, h => by
    unfold cloFrom
    have hk : (k == NameKind.free) = false := by
      have := h (n, k) List.mem_cons_self
      cases k <;> first | rfl | exact absurd rfl this
    rw [hk, if_neg (by simp)]
    exact clo_nil fun y hy => h y (List.mem_cons_of_mem _ hy)
section
variable {X : Cx} {pins : List (Addr × Obj)} {σ : L2.St} {H : Hp} {s : Shared}
/-- a lambda of one name, called -/
theorem lam1 {A : Around} {k : Nat} {f c' : Addr} {q y : Str} {params : Arguments} {body : Expr} {scope : Scope} {pm ctv v : Value} {x : V} {te : TE} {Q : VK} {E' : Value → Shared → Prop} (hr : Room (k + 1) A) (hfm : A.frames = X.A.frames) (I : Inv X pins σ H s)
    (hf : s.heap.get? f = some (PySem.W.kla_obj "<lambda>" q params body scope [] pm c' ctv)) (hco : H c' = some (LamX.CodeO c' q)) (S : FnScope [y] [y] scope)
    (hbind : bindArgs (PySem.W.kla_fn "<lambda>" q params body scope [] pm (.ref c') ctv) ⟨[v], []⟩ = pure [(y, v)]) (r : RelV x v)
    (hbody : PE (cxOf (L2.CX X.prog X.w) X.prog X.w X.K X.mg X.base [y] q scope f (.ref c') A X.stack s H OB.noE) body te) (ht : te (L2.start [y] [x]) H Q) :
    wpAny (model X.prog X.w) A (call (.ref f) [v]) (EP X pins σ Q) E' s := by
  have e1 := I.env0
  have e0 : Env0 X.prog X.w X.K X.mg X.base A X.stack s H := ⟨hfm.trans e1.frames, e1.mod, e1.bs, e1.bsz, e1.funs, e1.frf, e1.hok, e1.bare⟩
  have lim : s.heap.NoLimit := I.nolimit
  obtain ⟨⟨oc, vs, t, hoc, hdc, hvc⟩, _, _⟩ := I.hok c' _ hco
  have hkind : ∀ z ∈ [(y, v)], scope.names.lookup z.1 = some .local ∨ (scope.names.lookup z.1 = some .cell ∧ ((cellsFrom (s.heap.objs.size + 1) scope.names []).lookup z.1).isSome = true) := fun z hz => by
    rw [List.mem_singleton.mp hz]
    rcases S.par y List.mem_cons_self with q | q
    · exact .inl q
    · exact .inr ⟨q, PySem.W.cellsFrom_some _ _ _ (.inl q)⟩
  have rc : codeAny (model X.prog X.w) A (.call (.ref f) ⟨[v], []⟩) (CR (L2.CX X.prog X.w) X.stack X.prog X.w H s Q OB.noE) s := by
    refine PySem.W.kla_callFunE hr.depth hf rfl S.co S.gen rfl ⟨c', oc, vs, t, rfl, hoc, hdc, hvc⟩ ?_
    rw [hbind]
    refine wpAny_pure (wpAny_newFunctionEnv_cells S.kind hkind fun env he s1 x1 => ?_)
    subst he
    refine ⟨lim.keeps x1.toInCall.keep, ?_⟩
    have J : Inv (cxOf (L2.CX X.prog X.w) X.prog X.w X.K X.mg X.base [y] q scope f (.ref c') A X.stack s H OB.noE) [] (L2.start [y] [x]) H s1 := inv_start (ps := [y]) (us := [v]) S hr.hd e0 rfl (.cons r .nil) x1
    refine PySem.W.kla_codeExpr (wpAny_mono (hbody.run [] _ _ H Q J ht) (fun u s' hq => ?_) fun e s' hq => hq)
    obtain ⟨w', H', J', rv, q⟩ := hq
    exact ⟨w', H', J'.os, J'.bare, J'.base, J'.hok, rv, q⟩
  refine wpAny_call (codeAny_mono rc fun r s' hq => ?_)
  cases r with
  | error e =>
    obtain ⟨_, _, _, _, _, _, _, _, _, _, _, _, h⟩ := hq
    exact h.elim
  | ok fl =>
    cases fl with
    | ret u => exact I.after hq
    | next => exact False.elim hq
    | brk => exact False.elim hq
    | cont => exact False.elim hq
end
end SKy
namespace DL
open PySem PySem.Spec PyProof.Rows L2 SrtO
/-- the key of an item -/
def keyD (k : Int × Bool) : D := .tup [.int k.1, .bl k.2]
/-- does the second go ahead -/
def ahead (k2 k1 : Int × Bool) : Bool := lexB (k2.1, b2i k2.2) (k1.1, b2i k1.2)
/-- sorted(e, key = lambda y: b), of two -/
def dSortK (fe fb : DTE) : DTE := fun δ n q e => fe δ n (fun x n1 => ∃ d1 d2 k1 k2, x = .lst [d1, d2] ∧ (∀ q' : D → NS → Prop, q' (keyD k1) n1 → fb [some d1] n1 q' noX) ∧ (∀ q' : D → NS → Prop, q' (keyD k2) n1 → fb [some d2] n1 q' noX) ∧ q (.lst (if ahead k2 k1 then [d2, d1] else [d1, d2])) n1) e
section
variable {X : Cx} {M : LK} {W : WX}
theorem boot_sorted : bootBuiltins "sorted" = some (.builtin "sorted") := by decide +kernel
theorem dp_sortK {e : Expr} {fe fb : DTE} {p pos lpos kpos : Pos} {params : Arguments} {body : Expr} {scope : Scope} {y : Str} {c P : Addr} {k : Nat} (hK : X.K = M.L.K) (ha : PE X e (liftE M W fe)) (hr : Room (k + 3) X.A)
    (TB : LamX.TabB X.base X.mg c P) (hcode : X.env.code = .ref c) (hmT : (P, X.env.qual ++ "<lambda>") ∈ M.L.T) (hu : ∀ p ∈ M.L.T, p.1 = P → p.2 = X.env.qual ++ "<lambda>") (hdef : defaultsOf params X.env = ([], [])) (S : FnScope [y] [y] scope)
    (hbind : ∀ (q : Str) (cl : List (Str × Addr)) (pm cv ctv v : Value), bindArgs (PySem.W.kla_fn "<lambda>" q params body scope cl pm cv ctv) ⟨[v], []⟩ = pure [(y, v)])
    (hbody : ∀ (A : Around) (outer : List Env) (s : Shared) (H : Hp) (f c' : Addr), PE (cxOf (L2.CX X.prog X.w) X.prog X.w X.K X.mg X.base [y] (X.env.qual ++ "<lambda>") scope f (.ref c') A outer s H OB.noE) body (liftE M W0 fb))
    (hst : frs X.stack = X.env.locals :: X.fs) (hg : Gl X "sorted") (hm : X.mg "sorted" = none) (he : starEach [e] X.env = [(false, eval e X.env)] := by exact starEach_cons rfl) :
    PE X (.Call (.Name "sorted" p) [e] [⟨some "key", .Lambda params body scope lpos, kpos⟩] pos) (liftE M W (dSortK fe fb)) := by
  refine ⟨fun pins s σ H Q I h => ?_⟩
  obtain ⟨pn, G, n, δ, q, ex, R, h2, hQ, hX⟩ := h
  refine wpAny_Call_Name_kw (ld_blt I hg hm boot_sorted ?_)
  have ha2 : PA X [e] (tCons (liftE M W fe) tNil) := pa_cons ha pa_nil he
  refine PyProof.Rows.callWith_kw (thn (ha2.run pos pins s σ H (fun vs H1 => ∃ G1 n1 v d1 d2 k1 k2, Rep M pn G1 n1 σ δ H1 ∧ Adv pn G H G1 H1 ∧ vs = [v] ∧ Is M G1 v (.lst [d1, d2]) ∧ (∀ q' : D → NS → Prop, q' (keyD k1) n1 → fb [some d1] n1 q' noX) ∧ (∀ q' : D → NS → Prop, q' (keyD k2) n1 → fb [some d2] n1 q' noX) ∧ q (.lst (if ahead k2 k1 then [d2, d1] else [d1, d2])) n1) I ?_) fun us s1 ⟨vs, H1, I1, r1, q1⟩ => ?_) (by rw [he]; rfl) (by rw [he]; rfl) rfl rfl
  · refine ⟨pn, G, n, δ, _, ex, R, h2, fun G1 v d n1 H1 A1 R1 i1 h1 => ?_, hX⟩
    obtain ⟨d1, d2, k1, k2, rfl, b1, b2, h1⟩ := h1
    exact ⟨G1, n1, v, d1, d2, k1, k2, R1, A1, rfl, i1, b1, b2, h1⟩
  obtain ⟨G1, n1, v, d1, d2, k1, k2, R1, A1, rfl, i1, b1, b2, h1⟩ := q1
  simp only [Is] at i1
  obtain ⟨l, ws, rfl, gl, iw⟩ := i1
  obtain ⟨u, rfl, ru⟩ : ∃ u, us = [u] ∧ RelV (V.ref l) u := by
    cases r1 with
    | cons ru r1 =>
      cases r1
      exact ⟨_, rfl, ru⟩
  obtain rfl : u = Value.ref l := ru
  obtain ⟨w1, w2, rfl, iw1, iw2⟩ : ∃ w1 w2, ws = [w1, w2] ∧ Is M G1 w1 d1 ∧ Is M G1 w2 d2 := by
    match ws, iw with
    | [w1, w2], iw =>
      simp only [DL.IsL] at iw
      exact ⟨w1, w2, rfl, iw.1, iw.2.1⟩
    | [], iw => simp only [DL.IsL] at iw
    | [_], iw => simp only [DL.IsL, and_false] at iw
    | _ :: _ :: _ :: _, iw => simp only [DL.IsL, and_false] at iw
  show wpAny _ _ (evalAll [do let v ← eval (.Lambda params body scope lpos) X.env; standAt pos; pure v]) _ _ s1
  refine wpAny_evalAll_cons (wpAny_bind (LamX.lam_make2 I1 TB hcode hmT hu R1.tab hdef (fun z hz zf => absurd zf (S.nofree z hz)) fun f c' pm ctv H2 s2 I2 eN T2 hf hfn hfr hco => wpAny_bind (wpAny_standAt (wpAny_pure (wpAny_evalAll_nil ?_)))))
  rw [SKy.clo_nil S.nofree] at hf
  obtain ⟨R2, A2⟩ := R1.grow eN T2
  obtain ⟨G3, R3, A3, hco3⟩ := R2.know hco
  have A23 := A2.trans A3
  obtain ⟨_, its, nl, rI, hl⟩ := I2.hok l _ (R3.ex _ _ (A23.ge _ _ gl))
  obtain ⟨v1, v2, rfl, q1, q2⟩ : ∃ v1 v2, its = [v1, v2] ∧ RelV w1 v1 ∧ RelV w2 v2 := by
    cases rI with
    | cons q1 rI =>
      cases rI with
      | cons q2 rI =>
        cases rI
        exact ⟨_, _, rfl, q1, q2⟩
  have pb : SKy.PinB X H2 f := ⟨hfn, fun z => hfr (by rw [hst, z]; exact List.mem_cons_self), fun z => hfr (by rw [hst]; exact List.mem_cons_of_mem _ z)⟩
  have hr3 : Room (k + 1) X.A.in1.in1 := (hr.in1 : Room (k + 2) X.A.in1).in1
  refine SKy.sk_sorted (T := fun G H => Rep M pn G n1 σ δ H) (G := G3) (k1 := k1) (k2 := k2) I2 ⟨_, hl, rfl, _, rfl⟩ pb hf (fun v z => by cases z) (fun G H r => r.ex) R3 (fun v k0 hm pl G4 H4 s4 I4 R4 x4 hp => ?_) fun d G4 H4 s4 n4 I4 R4 x4 hd fd => ?_
  · obtain ⟨w, dd, rw_, iw, bd⟩ : ∃ w dd, RelV w v ∧ Is M G1 w dd ∧ ∀ q' : D → NS → Prop, q' (keyD k0) n1 → fb [some dd] n1 q' noX := by
      simp only [List.mem_cons, List.not_mem_nil, or_false, Prod.mk.injEq] at hm
      rcases hm with ⟨rfl, rfl⟩ | ⟨rfl, rfl⟩
      · exact ⟨w1, d1, q1, iw1, b1⟩
      · exact ⟨w2, d2, q2, iw2, b2⟩
    have hf4 := (SKy.pinB_of I4 hp).2
    have AX : Adv pn G1 H1 G4 H4 := ⟨A23.ge.trans x4⟩
    refine wpAny_mono (SKy.lam1 (x := w) (E' := fun _ _ => False) hr3 rfl I4 hf4 (R4.ex _ _ (x4 _ _ hco3)) S (hbind _ _ _ _ _ _) rw_ (hbody _ _ _ _ _ _) (Q := fun r H5 => ∃ G5, Rep M pn G5 n1 σ δ H5 ∧ SKy.Ext' G4 G5 ∧ ∃ t, r = .ref t ∧ SqT X.K G5 t [.int k0.1, .bl k0.2]) ?_) (fun r s5 hq => ?_) fun _ _ z => z
    · have iL : DL.IsL M G4 [w] [dd] := by
        simp only [DL.IsL]
        exact ⟨Is.up AX.ge _ _ iw, trivial⟩
      have RS := (R4.bare).start (N := [y]) iL
      refine ⟨pn, G4, n1, _, fun d n' => d = keyD k0 ∧ n' = n1, noX, RS, bd _ ⟨rfl, rfl⟩, fun G5 v d n' H5 A5 R5 i5 h5 => ?_, XEnd.no noX_no⟩
      obtain ⟨rfl, rfl⟩ := h5
      unfold keyD at i5
      simp only [Is] at i5
      obtain ⟨t, vs, rfl, gt, iv⟩ := i5
      obtain rfl : vs = [.int k0.1, .bl k0.2] := by
        match vs, iv with
        | [a, b], iv =>
          simp only [DL.IsL, Is] at iv
          rw [iv.1, iv.2.1]
        | [], iv => simp only [DL.IsL] at iv
        | [_], iv => simp only [DL.IsL, and_false] at iv
        | _ :: _ :: _ :: _, iv => simp only [DL.IsL, and_false] at iv
      exact ⟨G5, (R4.back R5.bare A5), A5.ge, t, rfl, by rw [hK]; exact gt⟩
    · obtain ⟨r', H5, I5, rr, G5, R5, x5, t, rfl, ht⟩ := hq
      exact ⟨G5, H5, I5, R5, x5, t, rr, ht⟩
  · have e2 : (if lexB (k2.1, b2i k2.2) (k1.1, b2i k1.2) = true then #[v2, v1] else #[v1, v2]).toList = (if ahead k2 k1 then [v2, v1] else [v1, v2]) := by
      unfold ahead
      split <;> rfl
    have I5 := Inv.take (t' := s4.toks) (o := .lst (if ahead k2 k1 then [w2, w1] else [w1, w2])) I4 (fun b ob _ q => q) fd (by
      refine ⟨by split <;> (rw [sizeLine_eq]; simp), (if ahead k2 k1 then [v2, v1] else [v1, v2]), n4, ?_, ?_⟩
      · split
        · exact .cons q2 (.cons q1 .nil)
        · exact .cons q1 (.cons q2 .nil)
      · rw [hd, ← e2])
    obtain ⟨R5, A5⟩ := R4.lay (p := d) (o := .lst (if ahead k2 k1 then [w2, w1] else [w1, w2])) fd.1 notTbl_lst
    have AX : Adv pn G1 H1 (upd G4 d (.lst (if ahead k2 k1 then [w2, w1] else [w1, w2]))) (upd H4 d (.lst (if ahead k2 k1 then [w2, w1] else [w1, w2]))) := ⟨(A23.ge.trans x4).trans A5.ge⟩
    refine ⟨.ref d, _, I5, rfl, hQ _ _ _ n1 _ (R.tr A1 AX) R5 ?_ h1⟩
    simp only [Is]
    refine ⟨d, _, rfl, upd_same, ?_⟩
    have j1 := Is.up AX.ge _ _ iw1
    have j2 := Is.up AX.ge _ _ iw2
    revert j1 j2
    generalize upd G4 d _ = GG
    intro j1 j2
    split
    · simp only [DL.IsL]
      exact ⟨j2, j1, trivial⟩
    · simp only [DL.IsL]
      exact ⟨j1, j2, trivial⟩
end
end DL

set_option Elab.async false
set_option linter.all false
set_option maxRecDepth 100000
set_option maxHeartbeats 4000000
set_option autoImplicit false
/-! <= of pairs (int, truth); in on lists of data; tuple(l). -/
namespace DL
open PySem PySem.Spec PyProof.Rows L2
section
variable {X : Cx} {M : LK} {W : WX}
def rLePB (K : PySem.W.Frag) : R2 := fun x y H Q => ∃ (a b : Addr) (i j : Int) (p q : Bool), x = .ref a ∧ y = .ref b ∧ SqT K H a [.int i, .bl p] ∧ SqT K H b [.int j, .bl q] ∧ Q (.bl (!ahead (j, q) (i, p))) H
theorem le_lex {i j : Int} {p q : Bool} : Ob.lexAt (fun k => if k = 0 then decide (i = j) else p == q) (fun k => if k = 0 then decide (i ≤ j) else decide (b2i p ≤ b2i q)) (decide (2 ≤ 2)) 0 2 = !ahead (j, q) (i, p) := by
  rw [Ob.lexAt_succ, Ob.lexAt_succ, Ob.lexAt_zero]
  unfold ahead SrtO.lexB
  simp only [Nat.zero_add, if_true, if_neg (by decide : ¬ (1 : Nat) = 0)]
  by_cases e : i = j
  · subst e
    cases p <;> cases q <;> simp [b2i]
  · rw [if_neg (by simp [e]), if_neg (fun z => e z.symm)]
    by_cases h : i ≤ j
    · rw [decide_eq_true h, decide_eq_false (by omega)]
      rfl
    · rw [decide_eq_false h, decide_eq_true (by omega)]
      rfl
theorem op_lePB (hK : X.K = M.L.K) (hu : X.A.units < cLine) : OpR X (compareOp .LtE) (rLePB M.L.K) := by
  rw [← hK]
  intro pins s σ H x y v u Q I rx ry h
  obtain ⟨a, b, i, j, p, q, rfl, rfl, ha, hb, h⟩ := h
  cases rx
  cases ry
  obtain ⟨its, r1, p1, _⟩ := I.tuple ha
  obtain ⟨its2, r2, p2, _⟩ := I.tuple hb
  obtain ⟨t, rfl⟩ : ∃ t, its = [.int i t, .bool p] := by
    cases r1 with
    | cons z1 r1 =>
      cases r1 with
      | cons z2 r1 =>
        cases r1
        obtain ⟨t, rfl⟩ := z1
        cases (show _ = Value.bool p from z2)
        exact ⟨t, rfl⟩
  obtain ⟨t', rfl⟩ : ∃ t, its2 = [.int j t, .bool q] := by
    cases r2 with
    | cons z1 r1 =>
      cases r1 with
      | cons z2 r1 =>
        cases r1
        obtain ⟨t, rfl⟩ := z1
        cases (show _ = Value.bool q from z2)
        exact ⟨t, rfl⟩
  have R := Ob.RcOp.tuples_le (A := X.A) (s := s) (e := fun k => if k = 0 then decide (i = j) else p == q) (r := fun k => if k = 0 then decide (i ≤ j) else decide (b2i p ≤ b2i q)) p1 p2 hu (fun k h1 h2 => by
    match k, h1, h2 with
    | 0, _, _ =>
      have z : (i == j) = decide (i = j) := by
        by_cases q : i = j
        · rw [decide_eq_true q]; exact beq_iff_eq.mpr q
        · rw [decide_eq_false q]; exact beq_eq_false_iff_ne.mpr q
      simp only [if_true]
      rw [← z]
      exact SeqAt.EqAt.int_int _ _ _ _
    | 1, _, _ => exact SeqAt.EqAt.bool_bool _ _
    | k + 2, h1, _ => exact absurd (show k + 2 < 2 from h1) (by omega)) (fun k h1 h2 _ => by
    match k, h1, h2 with
    | 0, _, _ => exact Ob.RcOp.le_int _ _ _ _
    | 1, _, _ => exact fun _ _ _ _ h => PyProof.Rows.le_bool h
    | k + 2, h1, _ => exact absurd (show k + 2 < 2 from h1) (by omega))
  have R' : wpAny (model X.prog X.w) X.A (richCompare .LtE (.ref a) (.ref b)) (EP X pins σ Q) X.xe s := by
    refine R X.prog X.w X.xe (EP X pins σ Q) ?_
    have e : Ob.lexAt (fun k => if k = 0 then decide (i = j) else p == q) (fun k => if k = 0 then decide (i ≤ j) else decide (b2i p ≤ b2i q)) (decide (([.int i t, .bool p] : List Value).toArray.size ≤ ([.int j t', .bool q] : List Value).toArray.size)) 0 (min ([.int i t, .bool p] : List Value).toArray.size ([.int j t', .bool q] : List Value).toArray.size) = !ahead (j, q) (i, p) := le_lex
    rw [e]
    exact ⟨.bl _, H, I, rfl, h⟩
  exact R'
def gLeP : GR2 := fun x y n q => match x, y with
  | .tup [.int i, .bl a], .tup [.int j, .bl b] => q (.bl (!ahead (j, b) (i, a))) n
  | _, _ => False
theorem isl_pb {G : Hp} {vs : List V} {i : Int} {b : Bool} (h : DL.IsL M G vs [.int i, .bl b]) : vs = [.int i, .bl b] := by
  match vs, h with
  | [a, b], h =>
    simp only [DL.IsL, Is] at h
    rw [h.1, h.2.1]
  | [], h => simp only [DL.IsL] at h
  | [_], h => simp only [DL.IsL, and_false] at h
  | _ :: _ :: _ :: _, h => simp only [DL.IsL, and_false] at h
theorem dr_leP : DR2 M (rLePB M.L.K) gLeP := by
  intro pn G n σ δ H v u x y q Q R ix iy h k
  unfold gLeP at h
  split at h
  · rename_i i a j b
    simp only [Is] at ix iy
    obtain ⟨p, vs, rfl, g1, i1⟩ := ix
    obtain ⟨p', vs', rfl, g2, i2⟩ := iy
    obtain rfl := isl_pb i1
    obtain rfl := isl_pb i2
    exact ⟨p, p', i, j, a, b, rfl, rfl, R.ex.seqT g1, R.ex.seqT g2, k G _ (.bl _) n H Adv.refl R (by simp only [Is]) h⟩
  · exact h.elim
/-- in, on a list of data -/
def inDD (x y : D) (k : Bool → Prop) : Prop := match y with
  | .lst ys => ∃ d ds, py x = some d ∧ pyL ys = some ds ∧ SeqAt.shaped d = true ∧ SeqAt.shaped (.list ds) = true ∧ k (ds.any fun z => PyData.eqv z d)
  | _ => False
def gInD : GR2 := fun x y n q => inDD x y fun b => q (.bl b) n
def gNotInD : GR2 := fun x y n q => inDD x y fun b => q (.bl (!b)) n
theorem dr_inDD : DR2 M (rInD M.L.K) gInD := by
  intro pn G n σ δ H v u x y q Q R ix iy h k
  unfold gInD inDD at h
  split at h
  · rename_i ys
    obtain ⟨d, ds, e1, e2, s1, s2, h⟩ := h
    exact ⟨d, ds, py_dp R.ex x v d ix e1, py_dp R.ex (.lst ys) u (.list ds) iy (by simp only [py, e2, Option.map_some]), s1, s2, k G _ (.bl _) n H Adv.refl R (by simp only [Is]) h⟩
  · exact h.elim
theorem dr_notInDD : DR2 M (rNotInD M.L.K) gNotInD := by
  intro pn G n σ δ H v u x y q Q R ix iy h k
  unfold gNotInD inDD at h
  split at h
  · rename_i ys
    obtain ⟨d, ds, e1, e2, s1, s2, h⟩ := h
    exact ⟨d, ds, py_dp R.ex x v d ix e1, py_dp R.ex (.lst ys) u (.list ds) iy (by simp only [py, e2, Option.map_some]), s1, s2, k G _ (.bl _) n H Adv.refl R (by simp only [Is]) h⟩
  · exact h.elim
theorem op_inDD (hK : X.K = M.L.K) (hu : X.A.units + 65 < cLine) : OpR X (compareOp .In) (rInD M.L.K) := hK ▸ op_inD hu
theorem op_notInDD (hK : X.K = M.L.K) (hu : X.A.units + 65 < cLine) : OpR X (compareOp .NotIn) (rNotInD M.L.K) := hK ▸ op_notInD hu
end
end DL

set_option Elab.async false
set_option linter.all false
set_option maxRecDepth 100000
set_option maxHeartbeats 4000000
set_option autoImplicit false
/-! tuple(l), l[::-1], ranges with a step, ranges as values. -/
namespace DL
open PySem PySem.Spec PyProof.Rows L2
section
variable {X : Cx} {M : LK} {W : WX}
def gTuple : GC := fun xs n q => match xs with
  | [.lst ys] => q (.tup ys) n
  | [.tup ys] => q (.tup ys) n
  | _ => False
theorem drc_tuple (hK : X.K = M.L.K) : DRC M (fun xs H Q => ∃ p ys, xs = [.ref p] ∧ ((SqL X.K H p ys ∧ ∀ l, H l = none → Q (.ref l) (upd H l (.tup ys))) ∨ (SqT X.K H p ys ∧ Q (.ref p) H))) gTuple := by
  intro pn G n σ δ H vs xs q Q R iv h k
  unfold gTuple at h
  split at h
  · rename_i ys
    obtain ⟨v, rfl, iw⟩ := iv.one
    simp only [Is] at iw
    obtain ⟨p, us, rfl, h1, h2⟩ := iw
    refine ⟨p, us, rfl, .inl ⟨SqL.of (R.ex _ _ h1), fun l hl => ?_⟩⟩
    obtain ⟨R2, A2⟩ := R.lay (o := .tup us) hl notTbl_tup
    exact k _ _ _ n _ A2 R2 (by simp only [Is]; exact ⟨l, us, rfl, SqT.of upd_same, IsL.up A2.ge _ _ h2⟩) h
  · rename_i ys
    obtain ⟨v, rfl, iw⟩ := iv.one
    have iw' := iw
    simp only [Is] at iw
    obtain ⟨p, us, rfl, h1, h2⟩ := iw
    exact ⟨p, us, rfl, .inr ⟨by rw [hK]; exact R.ex.seqT h1, k G _ _ n H Adv.refl R iw' h⟩⟩
  · exact h.elim
theorem IsL.reverse {G : Hp} : ∀ {ds : List D} {vs : List V}, DL.IsL M G vs ds → DL.IsL M G vs.reverse ds.reverse
  | [], [], h => h
  | [], _ :: _, h => by simp only [DL.IsL] at h
  | _ :: _, [], h => by simp only [DL.IsL] at h
  | d :: ds, v :: vs, h => by
    simp only [DL.IsL] at h
    rw [List.reverse_cons, List.reverse_cons]
    exact DL.IsL.append (IsL.reverse h.2) (by simp only [DL.IsL]; exact ⟨h.1, trivial⟩)
/-- l[::-1] -/
def dRevL (fe : DTE) : DTE := fun δ n q e => fe δ n (fun x n1 => match x with | .lst ys => q (.lst ys.reverse) n1 | _ => False) e
theorem dp_revL {e : Expr} {fe : DTE} {k : Nat} {p1 p2 p3 pos : Pos} (hK : X.K = M.L.K) (he : PE X e (liftE M W fe)) : PE X (.Subscript e (.Slice none none (some (.UnaryOp .USub (.Constant (.int 1) k p1) p2)) p3) pos) (liftE M W (dRevL fe)) :=
  PEw (pe_revL he) fun σ H Q ⟨pn, G, n, δ, q, e, R, hf, hQ, hX⟩ => by
    refine ⟨pn, G, n, δ, _, e, R, hf, fun G1 v d n1 H1 A1 R1 i1 h1 => ?_, hX⟩
    cases d with
    | lst ys =>
      simp only [Is] at i1
      obtain ⟨p, us, rfl, h2, h3⟩ := i1
      refine ⟨p, us, rfl, SqL.of (R1.ex _ _ h2), fun l hl => ?_⟩
      obtain ⟨R2, A2⟩ := R1.lay (o := .lst us.reverse) hl notTbl_lst
      exact hQ _ _ (.lst ys.reverse) n1 _ (R.tr A1 A2) R2 (by simp only [Is]; exact ⟨l, _, rfl, upd_same, IsL.reverse (IsL.up A2.ge _ _ h3)⟩) h1
    | _ => exact h1.elim
/-- lo, lo + c, .. -/
def rangeC (lo c : Int) (n : Nat) : List D := (List.range n).map fun i => .int (lo + (i : Nat) * c)
theorem yields_rangeC {pn : Addr} {G0 H0 : Hp} {lo c : Int} {m : Nat} : Yields M pn G0 H0 (Itc lo c m) (rangeC lo c m) where
  go := fun i G H n σ δ A R d hd => by
    have hlt : i < m := by
      have := (List.getElem?_eq_some_iff.mp hd).1
      simpa [rangeC] using this
    have e : d = .int (lo + (i : Nat) * c) := by
      unfold rangeC at hd
      rw [List.getElem?_map, List.getElem?_range hlt] at hd
      exact (Option.some.inj hd).symm
    refine ⟨hlt, fun x H' y => ?_⟩
    obtain ⟨rfl, rfl⟩ := y
    exact ⟨G, Adv.refl, R, by rw [e]; simp only [Is]⟩
  stop := fun G H n σ δ A R => by show m ≤ (rangeC lo c m).length; simp [rangeC]
def diRange3 (f : DTA) : DTI := fun δ n q e => f δ n (fun xs n1 => match xs with | [.int i, .int j, .int c] => ∃ m, RgC i j c m ∧ q (rangeC i c m) n1 | _ => False) e
theorem di_range3 {tg : Expr} {e : Expr} {f : DTA} (h : PI X tg e (iRng3 (liftA M W f))) : PI X tg e (liftI M W (diRange3 f)) :=
  PIw h fun σ H R' ⟨pn, G, n, δ, q, e, R, hf, hQ, hX⟩ => by
    refine ⟨pn, G, n, δ, _, e, R, hf, fun G1 vs ds n1 H1 A1 R1 i1 h1 => ?_, hX⟩
    match ds, h1 with
    | [.int i, .int j, .int c], h1 =>
      obtain rfl := IsL.ints (is := [i, j, c]) i1
      obtain ⟨m, r, h1⟩ := h1
      exact ⟨i, j, c, m, rfl, r, hQ G1 _ n1 H1 _ A1 R1 yields_rangeC h1⟩
/-- range(i, j) as a value -/
def dRngV (f : DTA) : DTE := fun δ n q e => f δ n (fun xs n1 => match xs with | [.int i, .int j] => ∀ p, n1.mu p = none → q (.ref p) ⟨n1.at_, mup n1.mu p (some (.rng i j))⟩ | _ => False) e
theorem dp_rngV {e : Expr} {f : DTA} (h : PE X e (tCB (fun vs H Q => ∃ i j, vs = [V.int i, V.int j] ∧ ∀ p, H p = none → Q (.ref p) (upd H p (.rng i j))) (liftA M W f))) : PE X e (liftE M W (dRngV f)) :=
  PEw h fun σ H Q ⟨pn, G, n, δ, q, e, R, hf, hQ, hX⟩ => by
    refine ⟨pn, G, n, δ, _, e, R, hf, fun G1 vs ds n1 H1 A1 R1 i1 h1 => ?_, hX⟩
    match ds, h1 with
    | [.int i, .int j], h1 =>
      obtain rfl := IsL.ints (is := [i, j]) i1
      refine ⟨i, j, rfl, fun p hp => ?_⟩
      obtain ⟨R2, A2⟩ := R1.mak (o := .rng i j) (u := .rng i j) hp (by simp only [MIs]; exact ⟨trivial, trivial⟩)
      exact hQ _ (.ref p) (.ref p) _ _ (R.tr A1 A2) R2 (by simp only [Is]) (h1 p (R1.munone hp))
/-- over a range that stands in a name -/
def diRngN (f : DTE) : DTI := fun δ n q e => f δ n (fun x n1 => ∃ a i j, x = .ref a ∧ n1.mu a = some (.rng i j) ∧ (-(2 ^ 62) ≤ i ∧ i < 2 ^ 62 ∧ -(2 ^ 62) ≤ j ∧ j < 2 ^ 62) ∧ q (rangeD i (j - i).toNat) n1) e
theorem pi_rngN {tg e : Expr} {te : TE} (h : PE X e te) : PI X tg e (fun σ H R => te σ H fun x H1 => ∃ a i j, x = .ref a ∧ H1 a = some (.rng i j) ∧ (-(2 ^ 62) ≤ i ∧ i < 2 ^ 62 ∧ -(2 ^ 62) ≤ j ∧ j < 2 ^ 62) ∧ R (Itr i (j - i).toNat) H1) := by
  refine ⟨fun pins s σ H R I h' => ?_⟩
  refine thn (h.run pins s σ H _ I h') fun v s1 ⟨x, H1, I1, r1, a, lo, hi, e, ha, ⟨h1, h2, h3, h4⟩, q⟩ => ?_
  subst e
  cases r1
  obtain ⟨t, u, w, ho⟩ := I1.hok a _ ha
  refine wpAny_pyIter_range (r := a) ho (small_one h1 h2 h3 h4) ?_
  refine ⟨s1.heap.objs.size, [s1.heap.objs.size], _, _, H1, rfl, I1.kept (t' := s1.toks) fun b o e => Heap.get?_push_of_some _ e, turn_range _ lo (hi - lo).toNat, ?_, fun b hb => ?_, q⟩
  · have e1 : lo + ((0 : Nat) : Int) * 1 = lo := by simp
    have e2 : (((hi - lo).toNat : Nat) : Int) - ((0 : Nat) : Int) = Builtin.Range.rangeSize lo hi 1 := by rw [rangeSize_one]; split <;> omega
    show IsRangeIter _ _ (lo + ((0 : Nat) : Int) * 1) ((((hi - lo).toNat : Nat) : Int) - ((0 : Nat) : Int)) 1
    rw [e1, e2]
    exact Heap.get?_push_size _ rfl
  · have e : b = s1.heap.objs.size := by simpa using hb
    subst e
    exact I1.fpOk (Nat.le_refl _) (I1.hok.fresh (Nat.le_refl _))
theorem di_rngN {tg e : Expr} {f : DTE} (h : PE X e (liftE M W f)) : PI X tg e (liftI M W (diRngN f)) :=
  PIw (pi_rngN h) fun σ H R' ⟨pn, G, n, δ, q, e, R, hf, hQ, hX⟩ => by
    refine ⟨pn, G, n, δ, _, e, R, hf, fun G1 v d n1 H1 A1 R1 i1 h1 => ?_, hX⟩
    obtain ⟨a, i, j, rfl, hm, hb, h1⟩ := h1
    simp only [Is] at i1
    subst i1
    obtain ⟨o, h2, h3, _⟩ := R1.mu a _ hm
    cases o <;> simp only [MIs] at h3
    obtain ⟨rfl, rfl⟩ := h3
    exact ⟨a, _, _, rfl, h2, hb, hQ G1 _ n1 H1 _ A1 R1 yields_range h1⟩
end
end DL

set_option Elab.async false
set_option linter.all false
set_option maxRecDepth 100000
set_option maxHeartbeats 4000000
set_option autoImplicit false
/-! [e for a in l for b in m] -/
namespace DL
open PySem PySem.Spec PyProof.Rows L2
section
variable {X : Cx} {M : LK} {W : WX}
def dLc2I (g1 : DTG) (te : DTE) (vs1 : List Nat) (δ2 : DEnv) (μ : Addr → Option MO) : List D → List D → Nat → (List D → Nat → Prop) → Prop
  | [], acc, t, k => k acc t
  | e :: es, acc, t, k => acc.length < 100000 ∧ ∀ m, Mle μ m → g1 e (wipeD δ2 vs1) ⟨t, m⟩ fun δ3 n3 => te δ3 n3 (fun y n4 => n4.mu = m ∧ dLc2I g1 te vs1 δ2 μ es (acc ++ [y]) n4.at_ k) noX
def dLc2L (g : DTG) (it1 : DTI) (g1 : DTG) (te : DTE) (vs vs1 : List Nat) (δ : DEnv) (μ : Addr → Option MO) : List D → List D → Nat → (List D → Nat → Prop) → Prop
  | [], acc, t, k => k acc t
  | d :: ds, acc, t, k => ∀ m, Mle μ m → g d (wipeD δ vs) ⟨t, m⟩ fun δ2 n0 => it1 δ2 n0 (fun es n1 => n1.mu = m ∧ dLc2I g1 te vs1 δ2 μ es acc n1.at_ fun acc' t' => dLc2L g it1 g1 te vs vs1 δ μ ds acc' t' k) noX
def dLc2 (it : DTI) (g : DTG) (it1 : DTI) (g1 : DTG) (te : DTE) (vs vs1 : List Nat) : DTE := fun δ n q e => it δ n (fun ds n1 => dLc2L g it1 g1 te vs vs1 δ n1.mu ds [] n1.at_ fun ys t => q (.lst ys) ⟨t, n1.mu⟩) e
theorem liftE_lc2 {it it1 : DTI} {g g1 : DTG} {te : DTE} {vs vs1 : List Nat} (σ : L2.St) (H : Hp) (Q : VK) (h : liftE M W (dLc2 it g it1 g1 te vs vs1) σ H Q) :
    tLc2 (liftI M W it) (liftG M vs g) (liftT M W0 dYes) (liftI M W0 it1) (liftG M vs1 g1) (liftT M W0 dYes) (liftE M W0 te) vs vs1 σ H Q := by
  obtain ⟨pn, G, n, δ, q, e, R, hf, hQ, hX⟩ := h
  refine ⟨pn, G, n, δ, _, e, R, hf, fun G1 ds n1 H1 J A1 R1 Y h1 => ?_, hX⟩
  intro Dd hD
  have md := R1.munone hD
  obtain ⟨RD, AD⟩ := R1.mak (o := .lst []) (u := .lst []) hD (by simp only [MIs, DL.IsL])
  obtain ⟨μ, hμ⟩ : ∃ μ, μ = n1.mu := ⟨_, rfl⟩
  rw [← hμ] at md RD h1
  refine ⟨fun i m H' => m = ds.length - i ∧ i ≤ ds.length ∧ ∃ (G' : Hp) (t : Nat) (acc : List D), Rep M pn G' ⟨t, mup μ Dd (some (.lst acc))⟩ σ δ H' ∧ Adv pn G1 H1 G' H' ∧ dLc2L g it1 g1 te vs vs1 δ μ (ds.drop i) acc t fun ys t => q (.lst ys) ⟨t, μ⟩,
    ⟨ds.length, rfl, Nat.zero_le _, G1, n1.at_, [], RD, AD, h1⟩, ?_⟩
  rintro i m H2 ⟨rfl, hi, G2, t2, acc2, R2, A2, h2⟩
  by_cases hlt : i < ds.length
  · obtain ⟨d, hd⟩ : ∃ d, ds[i]? = some d := ⟨ds[i], by simp [hlt]⟩
    have e1 : ds.drop i = d :: ds.drop (i + 1) := by
      rw [List.drop_eq_getElem_cons hlt]
      congr 1
      rw [List.getElem?_eq_getElem hlt] at hd
      exact Option.some.inj hd
    rw [e1] at h2
    obtain ⟨g2, g3⟩ := Y.go i G2 H2 _ σ δ A2.ge R2 d hd
    refine .inr ⟨g2, fun H' => ∃ (G' : Hp) (t : Nat) (acc : List D), Rep M pn G' ⟨t, mup μ Dd (some (.lst acc))⟩ σ δ H' ∧ Adv pn G1 H1 G' H' ∧ dLc2L g it1 g1 te vs vs1 δ μ (ds.drop (i + 1)) acc t fun ys t => q (.lst ys) ⟨t, μ⟩,
      fun H' h' => ⟨ds.length - (i + 1), by omega, rfl, hlt, h'⟩, fun x H3 hy => ?_⟩
    obtain ⟨G3, A3, R3, i3⟩ := g3 x H3 hy
    have h2 := h2 (mup μ Dd (some (.lst acc2))) (fun a o e => by rw [mup_ne (fun z => by rw [z, md] at e; cases e)]; exact e)
    refine ⟨pn, G3, _, wipeD δ vs, d, _, R3.wipe, i3, h2, fun G4 σ4 δ4 n4 H4 A4 R4 w4 h4 => ?_⟩
    refine ⟨w4.trans (wipe_wipe fun _ h => h), pn, G4, n4, δ4, fun b n' => b = true ∧ n' = n4, noX, R4, ⟨rfl, rfl⟩, fun G5 b n5 H5 A5 R5 h5 => ?_, XEnd.no noX_no⟩
    obtain ⟨rfl, rfl⟩ := h5
    refine iteT ⟨pn, G5, n5, δ4, _, noX, R5, h4, fun G6 es n6 H6 J1 A6 R6 Y1 h6 => ?_, XEnd.no noX_no⟩
    obtain ⟨em, h6⟩ := h6
    have A26 : Adv pn G2 H2 G6 H6 := R2.tr A3 (R3.tr A4 (R4.tr A5 A6))
    obtain ⟨t6, m6⟩ := n6
    simp only at em h6
    subst em
    refine ⟨fun j k H' => k = es.length - j ∧ j ≤ es.length ∧ ∃ (G' : Hp) (t : Nat) (acc : List D), Rep M pn G' ⟨t, mup μ Dd (some (.lst acc))⟩ σ4 δ4 H' ∧ Adv pn G6 H6 G' H' ∧ dLc2I g1 te vs1 δ4 μ (es.drop j) acc t fun acc' t' => dLc2L g it1 g1 te vs vs1 δ μ (ds.drop (i + 1)) acc' t' fun ys t => q (.lst ys) ⟨t, μ⟩,
      ⟨es.length, rfl, Nat.zero_le _, G6, t6, acc2, R6, Adv.refl, h6⟩, ?_⟩
    rintro j k H7 ⟨rfl, hj, G7, t7, acc7, R7, A7, h7⟩
    by_cases hlj : j < es.length
    · obtain ⟨f, hf⟩ : ∃ f, es[j]? = some f := ⟨es[j], by simp [hlj]⟩
      have e2 : es.drop j = f :: es.drop (j + 1) := by
        rw [List.drop_eq_getElem_cons hlj]
        congr 1
        rw [List.getElem?_eq_getElem hlj] at hf
        exact Option.some.inj hf
      rw [e2] at h7
      obtain ⟨hlen, h7⟩ := h7
      obtain ⟨g4, g5⟩ := Y1.go j G7 H7 _ σ4 δ4 A7.ge R7 f hf
      refine .inr ⟨g4, fun H' => ∃ (G' : Hp) (t : Nat) (acc : List D), Rep M pn G' ⟨t, mup μ Dd (some (.lst acc))⟩ σ4 δ4 H' ∧ Adv pn G6 H6 G' H' ∧ dLc2I g1 te vs1 δ4 μ (es.drop (j + 1)) acc t fun acc' t' => dLc2L g it1 g1 te vs vs1 δ μ (ds.drop (i + 1)) acc' t' fun ys t => q (.lst ys) ⟨t, μ⟩,
        fun H' h' => ⟨es.length - (j + 1), by omega, rfl, hlj, h'⟩, fun x8 H8 hy8 => ?_⟩
      obtain ⟨G8, A8, R8, i8⟩ := g5 x8 H8 hy8
      have h7 := h7 (mup μ Dd (some (.lst acc7))) (fun a o e => by rw [mup_ne (fun z => by rw [z, md] at e; cases e)]; exact e)
      refine ⟨pn, G8, _, wipeD δ4 vs1, f, _, R8.wipe, i8, h7, fun G9 σ9 δ9 n9 H9 A9 R9 w9 h9 => ?_⟩
      refine ⟨w9.trans (wipe_wipe fun _ h => h), pn, G9, n9, δ9, fun b n' => b = true ∧ n' = n9, noX, R9, ⟨rfl, rfl⟩, fun Ga b na Ha Aa Ra ha => ?_, XEnd.no noX_no⟩
      obtain ⟨rfl, rfl⟩ := ha
      refine iteT ⟨pn, Ga, na, δ9, _, noX, Ra, h9, fun Gb v y nb Hb Ab Rb ib hb => ?_, XEnd.no noX_no⟩
      obtain ⟨em, hb⟩ := hb
      have A7b : Adv pn G7 H7 Gb Hb := R7.tr A8 (R8.tr A9 (R9.tr Aa Ab))
      have Rb' : Rep M pn Gb nb σ4 δ4 Hb := Rb.env_of (R7.env.up A7b)
      have mb : nb.mu Dd = some (.lst acc7) := by rw [em, mup_same]
      obtain ⟨u, hu, iu, _, _⟩ := Rb'.mu Dd _ mb
      cases u <;> simp only [MIs] at iu
      rename_i us
      refine ⟨us, hu, by rw [iu.length]; exact Nat.lt_of_lt_of_le hlen (le_line (Nat.le_refl _)), Gb, nb.at_, acc7 ++ [y], ?_, (R6.tr A7 A7b).trans ⟨Ext.refl _⟩, hb⟩
      have := Rb'.chg (o := .lst (us ++ [v])) (u := .lst (acc7 ++ [y])) mb (by simp only [MIs]; exact DL.IsL.append iu (by simp only [DL.IsL]; exact ⟨ib, trivial⟩))
      rw [em, mup_mup] at this
      exact this
    · have ej : j = es.length := by omega
      subst ej
      rw [List.drop_length] at h7
      refine .inl ⟨Y1.stop G7 H7 _ σ4 δ4 A7.ge R7, G7, t7, acc7, R7.env_of (R2.env.up (R2.tr A26 A7)), R1.tr A2 (R2.tr A26 A7), h7⟩
  · have ei : i = ds.length := by omega
    subst ei
    rw [List.drop_length] at h2
    refine .inl ⟨Y.stop G2 H2 _ σ δ A2.ge R2, ?_⟩
    have A02 := R.tr A1 A2
    obtain ⟨G3, R3, A3, i3⟩ := frz_is R2 (a := Dd) (o := .lst acc2) mup_same rfl
    have R3' : Rep M pn G3 ⟨t2, μ⟩ σ δ H2 := by
      have := R3
      simp only [mup_mup, mup_back md] at this
      exact this
    exact hQ G3 (.ref Dd) (.lst acc2) ⟨t2, μ⟩ H2 (A02.trans A3) R3' i3 h2
theorem dp_lc2 {ex : Expr} {it it1 : DTI} {g g1 : DTG} {te : DTE} {vs vs1 : List Nat} (h : PE X ex (tLc2 (liftI M W it) (liftG M vs g) (liftT M W0 dYes) (liftI M W0 it1) (liftG M vs1 g1) (liftT M W0 dYes) (liftE M W0 te) vs vs1)) : PE X ex (liftE M W (dLc2 it g it1 g1 te vs vs1)) := PEw h liftE_lc2
end
end DL

set_option Elab.async false
set_option linter.all false
set_option maxRecDepth 100000
set_option maxHeartbeats 4000000
set_option autoImplicit false
/-! != of two pairs (text, instance) whose texts are one text and whose instances an own == takes for equal. -/
namespace TN
open PySem PySem.Spec PyProof.Rows PySem.AutoSeq1
section
variable {prog : Program} {w : World} {A : Around} {R : Result → Shared → Prop}
/-- tuples that are equal item by item: != is False -/
theorem ne_body (l b : Addr) (items items2 : Array Value) (n n2 : Nat) (dd dd2 : Option Addr) (sl sl2 : Array (Option Value)) (hsz : items.size = items2.size) (J : Nat → Shared → Prop)
    (one : ∀ k (h1 : k < items.size) (h2 : k < items2.size) s, J k s → wpAny (model prog w) A.in1 (eqBool items[k] items2[k]) (fun r s' => r = true ∧ J (k + 1) s') (fun e s' => R (.error e) s') s)
    (last : ∀ s, J items.size s → R (.ok (.ret (.bool false))) s) {s : Shared} (ol : s.heap.get? l = some { cls := .type "tuple", dict := dd, data := .seq items n, slots := sl }) (ob : s.heap.get? b = some { cls := .type "tuple", dict := dd2, data := .seq items2 n2, slots := sl2 }) (j0 : J 0 s) :
    wpAny (model prog w) A.in1 (Builtin.«tuple.__ne__» ⟨[.ref l, .ref b], []⟩) (GQ.FinOf prog w A R) (fun e s' => R (.error e) s') s := by
  have sub := AutoSeq1.sub_tuple_tuple
  have zl : (items.toList.zip items2.toList).length = items.size := by simp [hsz]
  have start := j0
  obtain ⟨hp, g, d, tk, os⟩ := s
  wp_walk using wpAny_loadPart' ol, wpAny_loadPart' ob, wpAny_forIn_list _ (fun rest b s' => b.1 = none ∧ ∃ k, rest = (items.toList.zip items2.toList).drop k ∧ k ≤ items.size ∧ J k s') _
  case turn =>
    rintro ⟨y, x⟩ rest b s' ⟨hb', k, hz, hk, hJ⟩
    have hlt : k < (items.toList.zip items2.toList).length := Nat.lt_of_not_le fun h' => by
      rw [List.drop_of_length_le h'] at hz
      cases hz
    have h1 : k < items.size := zl ▸ hlt
    have h2 : k < items2.size := hsz ▸ h1
    rw [List.drop_eq_getElem_cons hlt] at hz
    injection hz with hyx hrest
    obtain rfl : y = items[k] := by simpa using congrArg Prod.fst hyx
    obtain rfl : x = items2[k] := by simpa using congrArg Prod.snd hyx
    refine wpAny_bind (wpAny_mono (one k h1 h2 s' hJ) (fun r s2 q2 => ?_) fun _ _ x => x)
    obtain ⟨rfl, q2⟩ := q2
    wp_walk
    exact ⟨rfl, k + 1, hrest, h1, q2⟩
  case fin =>
    rintro ⟨b1, b2⟩ s' ⟨hb', k, hz, hk, hJ⟩
    simp only at hb'
    subst hb'
    have hge : items.size ≤ k := Nat.le_of_not_lt fun h' => by
      rw [List.drop_eq_getElem_cons (by rw [zl]; exact h')] at hz
      cases hz
    have hk' : k = items.size := by omega
    have hR : R (.ok (.ret (.bool false))) s' := last s' (hk' ▸ hJ)
    wp_walk
    simpa [Builtin.Tuple.tupleCompareSizes, hsz] using hR
  case h => exact ⟨rfl, 0, rfl, Nat.zero_le _, start⟩
end
section
variable {prog : Program} {w : World} {A : Around} {E : Value → Shared → Prop} {s : Shared}
theorem rc_ne {l b : Addr} {items items2 : Array Value} {Q : Value → Shared → Prop} (hsz : items.size = items2.size) (hu : A.units < cLine) (J : Nat → Shared → Prop)
    (hl : s.heap.IsTuple l items) (hb : s.heap.IsTuple b items2)
    (one : ∀ k (h1 : k < items.size) (h2 : k < items2.size) s, J k s → wpAny (model prog w) A.in1 (eqBool items[k] items2[k]) (fun r s' => r = true ∧ J (k + 1) s') E s)
    (last : ∀ s, J items.size s → Q (.bool false) s) (h : J 0 s) : wpAny (model prog w) A (richCompare .NotEq (.ref l) (.ref b)) Q E s := by
  obtain ⟨⟨cls, dd, data, sl⟩, ho, hc, n, hd⟩ := id hl
  obtain ⟨⟨cls2, dd2, data2, sl2⟩, ho2, hc2, n2, hd2⟩ := id hb
  simp only at hc hd hc2 hd2
  subst hc hd hc2 hd2
  refine wpAny_richCompare_same_room (op := .NotEq) ⟨_, ho, rfl⟩ ⟨_, ho2, rfl⟩ F.slot_tuple_ne (GQ.call_here F.slot_tuple_ne ⟨_, ho, rfl⟩ F.entry_tuple_ne (F.args_tuple_ne_2 _ _) ?_) hu
  exact ne_body (R := wants (fun v s' => v ≠ .notImplemented ∧ Q v s') E) l b items items2 n n2 dd dd2 sl sl2 hsz J one (fun s' q => ⟨(fun x => nomatch x), last s' q⟩) ho ho2 h
end
end TN
namespace DL
open PySem PySem.Spec PyProof.Rows L2
section
variable {X : Cx} {M : LK} {W : WX}
/-- != of two pairs (text, instance) -/
def rNeI (K : PySem.W.Frag) (C : Addr) (sp : Sp) : R2 := fun x y H Q => ∃ (p1 p2 a dx : Addr) (z : Str) (w2 : V) (tb : Value) (fs : List (Str × V)), x = .ref p1 ∧ y = .ref p2 ∧ SqT K H p1 [.str z, .ref a] ∧ SqT K H p2 [.str z, w2] ∧ H a = some (.ins C dx fs) ∧ TyX K H w2 tb ∧ PySem.W.notFirst K C tb = true ∧ (∃ b, w2 = .ref b) ∧
  Q (.bl false) H ∧ sp [.ref a, w2] H (fun v H' => v = .bl true ∧ Q (.bl false) H') OB.noE
theorem op_neI {C : Addr} {sp : Sp} {k : Nat} {f : Addr} {fd : FuncData} {ps : List Str} (c : OB.EqC X.K C f) (F : FnOk X.prog X.w X.K X.mg X.base (L2.CX X.prog X.w) k f fd ps sp) (hr : Room (k + 1) X.A) (b : Binds X.K fd ps []) : OpR X (compareOp .NotEq) (rNeI X.K C sp) := by
  intro pins s σ H x y u v Q I rx ry h
  obtain ⟨p1, p2, a, dx, z, w2, tb, fs, rfl, rfl, h1, h2, ha, ty, nf, ⟨b2, rfl⟩, q0, hsp⟩ := h
  cases rx
  cases ry
  obtain ⟨its, r1, e1, _⟩ := I.tuple h1
  obtain ⟨its2, r2, e2, _⟩ := I.tuple h2
  obtain ⟨t1, rfl⟩ : ∃ t, its = [.str z t, .ref a] := by
    cases r1 with
    | cons z1 r =>
      cases r with
      | cons z2 r =>
        cases r
        obtain ⟨t, rfl⟩ := z1
        cases (show _ = Value.ref a from z2)
        exact ⟨t, rfl⟩
  obtain ⟨t2, rfl⟩ : ∃ t, its2 = [.str z t, .ref b2] := by
    cases r2 with
    | cons z1 r =>
      cases r with
      | cons z2 r =>
        cases r
        obtain ⟨t, rfl⟩ := z1
        cases (show _ = Value.ref b2 from z2)
        exact ⟨t, rfl⟩
  refine (show wpAny (model X.prog X.w) X.A (richCompare .NotEq (.ref p1) (.ref p2)) (EP X pins σ Q) X.xe s from ?_)
  refine TN.rc_ne (items := #[.str z t1, .ref a]) (items2 := #[.str z t2, .ref b2]) rfl hr.units0 (fun k s' => (k < 2 → Inv X pins σ H s') ∧ (k = 2 → ∃ H', Inv X pins σ H' s' ∧ Q (.bl false) H')) e1 e2 (fun k g1 g2 s' J => ?_) (fun s' J => ?_) ⟨fun _ => I, fun z => by cases z⟩
  · match k, g1, g2, J with
    | 0, _, _, J =>
      have e : (z == z) = true := beq_self_eq_true z
      have := SeqAt.EqAt.str_str (A := X.A.in1) (s := s') z t1 z t2
      rw [e] at this
      exact this X.prog X.w X.xe _ ⟨rfl, fun _ => J.1 (by decide), fun z => by cases z⟩
    | 1, _, _, J =>
      have I' := J.1 (by decide)
      show wpAny (model X.prog X.w) X.A.in1 (eqBool (.ref a) (.ref b2)) _ X.xe s'
      by_cases hab : a = b2
      · subst hab
        exact SeqAt.EqAt.same (A := X.A.in1) (s := s') (.ref a) X.prog X.w X.xe _ ⟨rfl, fun z => absurd z (by decide), fun _ => ⟨H, I', q0⟩⟩
      · obtain ⟨mA, J2, _⟩ := ins_get I'.hok ha
        obtain ⟨od, J2, _⟩ := J2.look
        obtain ⟨m, hF⟩ := I'.fr
        obtain ⟨P, Z, hP, _⟩ := kit_of I' (show RelV (.ref b2) (.ref b2) from rfl) ty
        refine GQ.eqBool_refG hab (PySem.W.cmp_K (op := .Eq) (tb := tb) hr.in1.units0 hF I'.ok.mod.kin J2 (Z.ty _ _ I'.kIn hP) nf c.eq c.fn ?_)
        refine wpAny_mono (OB.below (A := X.A.in1) F b hr.in1 rfl OB.passNo I' (us := [.ref a, .ref b2]) (vs := [.ref a, .ref b2]) (.cons rfl (.cons rfl .nil)) hsp) (fun w s2 q => ?_) fun _ _ z => z
        obtain ⟨w', H', I2, rz, rfl, q⟩ := q
        cases (show w = Value.bool true from rz)
        exact ⟨true, rfl, rfl, fun z => absurd z (by decide), fun _ => ⟨H', I2, q⟩⟩
    | k + 2, g1, _, _ => exact absurd (show k + 2 < 2 from g1) (by omega)
  · obtain ⟨H', I2, q⟩ := J.2 rfl
    exact ⟨.bl false, H', I2, rfl, q⟩
def gNeI (K : PySem.W.Frag) (C : Addr) (s : DSp) : GR2 := fun x y n q => match x, y with
  | .tup [.str a, .ins C1 ns xs], .tup [.str b, .ins C2 ms ys] => a = b ∧ C1 = C ∧ (∃ t, tyD K (.ins C2 ms ys) t ∧ PySem.W.notFirst K C t = true) ∧ s [.ins C1 ns xs, .ins C2 ms ys] n (fun d n' => d = .bl true ∧ n' = n) (fun _ _ _ _ => False) ∧ q (.bl false) n
  | x, y => eqD x y fun b => q (.bl (!b)) n
theorem op_neIX {C : Addr} {s : DSp} {k j : Nat} (c : EqD X.prog X.w X.K X.mg X.base M k C s) (hK : X.K = M.L.K) (hr : Room j X.A) (hkj : k + 1 ≤ j) : OpR X (compareOp .NotEq) (fun x y H Q => (rNe x y H Q ∨ rNeD M.L.K x y H Q) ∨ rNeI M.L.K C (lift M 2 s) x y H Q) := by
  obtain ⟨f, fd, ps, e, F, b⟩ := c.ex
  exact OpR.or (op_neX hK (by have := hr.un; omega)) (hK ▸ op_neI e F (hr.mono hkj) b)
theorem isl_two {G : Hp} {vs : List V} {d e : D} (h : DL.IsL M G vs [d, e]) : ∃ v w, vs = [v, w] ∧ Is M G v d ∧ Is M G w e := by
  match vs, h with
  | [a, b], h =>
    simp only [DL.IsL] at h
    exact ⟨a, b, rfl, h.1, h.2.1⟩
  | [], h => simp only [DL.IsL] at h
  | [_], h => simp only [DL.IsL, and_false] at h
  | _ :: _ :: _ :: _, h => simp only [DL.IsL, and_false] at h
theorem dr_neI {C : Addr} {s : DSp} : DR2 M (fun x y H Q => (rNe x y H Q ∨ rNeD M.L.K x y H Q) ∨ rNeI M.L.K C (lift M 2 s) x y H Q) (gNeI M.L.K C s) := by
  intro pn G n σ δ H v u x y q Q R ix iy h k
  unfold gNeI at h
  split at h
  · rename_i a C1 ns xs b C2 ms ys
    obtain ⟨rfl, rfl, ⟨t, ht, hn⟩, h1, h2⟩ := h
    simp only [Is] at ix iy
    obtain ⟨p1, vs, rfl, g1, i1⟩ := ix
    obtain ⟨p2, us, rfl, g2, i2⟩ := iy
    obtain ⟨v1, v2, rfl, i3, i4⟩ := isl_two i1
    obtain ⟨u1, u2, rfl, i5, i6⟩ := isl_two i2
    have i4' := i4
    have i6' := i6
    simp only [Is] at i3 i4' i5 i6'
    obtain ⟨c1, d1, f1, rfl, h3, h4, h5⟩ := i4'
    obtain ⟨c2, d2, f2, rfl, h6, h7, h8⟩ := i6'
    subst i3 i5
    refine .inr ⟨p1, p2, c1, d1, _, _, t, f1, rfl, rfl, R.ex.seqT g1, R.ex.seqT g2, R.ex _ _ h3, tyD_ok R.ex ht i6, hn, ⟨c2, rfl⟩, k G (.bl false) (.bl false) n H Adv.refl R (by simp only [Is]) h2, ?_⟩
    refine ⟨pn, G, n, _, _, fun _ _ _ _ => False, R.bare, by simp only [DL.IsL]; exact ⟨i4, i6, trivial⟩, rfl, h1, fun G' v d n' H' A' R' i' h' => ?_, fun G' C a ns xs n' H' A' R' x' h' => h'.elim⟩
    obtain ⟨rfl, rfl⟩ := h'
    simp only [Is] at i'
    exact ⟨i', k G' (.bl false) (.bl false) _ H' A' (R.back R' A') (by simp only [Is]) h2⟩
  · exact .inl (dr_ne pn G n σ δ H v u x y q Q R ix iy h k)
end
end DL

set_option Elab.async false
set_option linter.all false
set_option maxRecDepth 100000
set_option maxHeartbeats 4000000
set_option autoImplicit false
/-! Own errors as values: made, asked for a field, asked for their kind. -/
namespace L2
open PySem PySem.Spec PyProof.Rows
theorem errO_ok {P : Program} {w : World} {H : Hp} {h : Heap} {a C : Addr} {dd : Option Addr} {oe : Obj} {vs : Array Value} (e : h.get? a = some oe) (c : oe.cls = .ref C) (d : oe.dict = dd) (v : oe.data = .fields vs) : ObjOk P w H h a (DL.ErrO C dd a) :=
  ⟨⟨oe, vs, e, c, d, v⟩, ⟨oe, e⟩, fun _ _ ⟨o, u, q, r⟩ k => ⟨o, u, k o q, r⟩⟩
section
variable {X : Cx} {pins : List (Addr × Obj)} {σ : L2.St} {H : Hp} {s : Shared} {Q : VK} {C fI : Addr} {x f g : Str} {v u : V} {v' u' : Value}
/-- the made exception and its dict are taken into the abstract heap -/
theorem err_in {hp h' : Heap} {gs : Array GenState} {dr : Drawn} {tk tk' : Nat} {os : OsState} {e d : Addr} {fs : List (Str × V)} {mA : Str → Option Value} (I : Inv X pins σ H ⟨hp, gs, dr, tk, os⟩) (keep : ∀ b o, hp.get? b = some o → h'.get? b = some o) (new : hp.objs.size ≤ e)
    (obj : ∃ oe vs, h'.get? e = some oe ∧ oe.cls = .ref C ∧ oe.dict = some d ∧ oe.data = .fields vs) (dbig : hp.objs.size ≤ d) (dne : d ≠ e) (ns : h'.Ns1 d mA) (rel : ∀ y, RelO (fs.lookup y) (mA y))
    (h : Q (.ref e) (upd (upd H d (.xd fs)) e (DL.ErrO C (some d) e))) : EP X pins σ Q (.ref e) ⟨h', gs, dr, tk', os⟩ := by
  obtain ⟨oe, fv, hoe, hc, hd, hdat⟩ := obj
  obtain ⟨G', g1, g2⟩ := restrict h' fun b => decide (b ≠ e)
  have gk : ∀ b, b ≠ e → G'.get? b = h'.get? b := fun b hb => g1 b (decide_eq_true hb)
  have ge : G'.get? e = none := g2 e (by simp)
  have old : ∀ b o, hp.get? b = some o → G'.get? b = some o := fun b o q => (gk b (Nat.ne_of_lt (Nat.lt_of_lt_of_le (Heap.lt_size q) new))).trans (keep b o q)
  have ob : ObjOk X.prog X.w (upd H d (.xd fs)) G' d (.xd fs) := ⟨_, ns.at (fun o q => (gk d dne).trans q), rel⟩
  have J : Inv X pins σ (upd H d (.xd fs)) ⟨G', gs, dr, tk', os⟩ := I.laid (t' := tk') old dbig ob
  have ne : (upd H d (.xd fs)) e = none := by
    rw [upd_ne (Ne.symm dne)]
    exact I.hok.fresh new
  have J2 : Inv X pins σ (upd (upd H d (.xd fs)) e (DL.ErrO C (some d) e)) ⟨h', gs, dr, tk', os⟩ := J.laidN (t' := tk') (fun b o q => by
    by_cases hb : b = e
    · have q' : G'.get? b = some o := q
      rw [hb, ge] at q'; cases q'
    · exact (gk b hb).symm.trans q) ge ne (errO_ok hoe hc hd hdat)
  exact ⟨.ref e, _, J2, rfl, h⟩
/-- C called, one field -/
theorem err_call {k : Nat} (T : PySem.EX.ErrTxt X.prog X.K X.mg x f C fI) (hr : Room k X.A) (I : Inv X pins σ H s) (rv : RelV v v') {us : List Value} {kw : List (Str × Value)} (har : (us = [v'] ∧ kw = []) ∨ (us = [] ∧ kw = [(f, v')]))
    (h : ∀ a d, H a = none → H d = none → d ≠ a → Q (.ref a) (upd (upd H d (.xd [(f, v)])) a (DL.ErrO C (some d) a))) : wpAny (model X.prog X.w) X.A (call (.ref C) us kw) (EP X pins σ Q) X.xe s := by
  have hlim := I.nolimit
  have bk1 := I.bk
  obtain ⟨hp, gs, dr, tk, os⟩ := s
  refine wpAny_call (PySem.EX.err_made T I.ok.mod bk1 I.kIn hlim (by have := hr.dp; omega) har fun h' tk' e d M => ?_)
  obtain ⟨oe, fv, hoe, hc, hd, hdat, _⟩ := M.obj
  exact err_in I M.keep M.new ⟨oe, fv, hoe, hc, hd, hdat⟩ M.dbig M.dne M.ns (fun y => relO_err rv y) (h e d (I.hok.fresh M.new) (I.hok.fresh M.dbig) M.dne)
/-- .. two fields -/
theorem err_call2 {k : Nat} (T : PySem.EY.ErrTxt X.prog X.K X.mg x f g C fI) (hr : Room k X.A) (I : Inv X pins σ H s) (rv : RelV v v') (ru : RelV u u') {us : List Value} {kw : List (Str × Value)} (har : PySem.EY.ArgsOf f g v' u' [] ⟨us, kw⟩)
    (h : ∀ a d, H a = none → H d = none → d ≠ a → Q (.ref a) (upd (upd H d (.xd [(f, v), (g, u)])) a (DL.ErrO C (some d) a))) : wpAny (model X.prog X.w) X.A (call (.ref C) us kw) (EP X pins σ Q) X.xe s := by
  have hlim := I.nolimit
  have bk1 := I.bk
  obtain ⟨hp, gs, dr, tk, os⟩ := s
  refine wpAny_call (PySem.EY.err_made T I.ok.mod bk1 I.kIn hlim (by have := hr.dp; omega) har fun h' tk' e d M => ?_)
  obtain ⟨oe, fv, hoe, hc, hd, hdat, _⟩ := M.obj
  exact err_in I M.keep M.new ⟨oe, fv, hoe, hc, hd, hdat⟩ M.dbig M.dne M.ns (fun y => relO_err2 rv ru T.gf y) (h e d (I.hok.fresh M.new) (I.hok.fresh M.dbig) M.dne)
end
/-- C(e) -/
def tErr1 (C : Addr) (f : Str) (ta : TA) : TE := fun σ H Q => ta σ H fun vs H1 => ∃ v, vs = [v] ∧ ∀ a d, H1 a = none → H1 d = none → d ≠ a → Q (.ref a) (upd (upd H1 d (.xd [(f, v)])) a (DL.ErrO C (some d) a))
/-- C(e, ..), the fields handed in by sw in their order or the other way -/
def tErr2 (C : Addr) (f g : Str) (sw : Bool) (ta tk : TA) : TE := fun σ H Q => ta σ H fun vs H1 => tk σ H1 fun us H2 => ∃ v u, vs ++ us = (if sw then [u, v] else [v, u]) ∧ ∀ a d, H2 a = none → H2 d = none → d ≠ a → Q (.ref a) (upd (upd H2 d (.xd [(f, v), (g, u)])) a (DL.ErrO C (some d) a))
section
variable {X : Cx} {C fI : Addr} {x f g : Str} {k : Nat} {e : Expr} {es : List Expr} {kws : List Keyword} {ta tk : TA} {p pos : Pos}
theorem pe_err1 (T : PySem.EX.ErrTxt X.prog X.K X.mg x f C fI) (hr : Room k X.A) (hg : Gl X x) (ha : PA X [e] ta) (hdb : (x == ("__debug__" : Str)) = false := by decide)
    (he : starEach (e :: []) X.env = (false, eval e X.env) :: starEach [] X.env := by rfl) (hpl : (backTo pos (starEach [] X.env)).any (·.1) = false := by rfl) : PE X (.Call (.Name x p) [e] [] pos) (tErr1 C f ta) := by
  constructor
  intro pins s σ H Q I h
  refine wpAny_Call_Name_kw (ld_glob I hg T.gC (PySem.W.callWith_K (h₀ := X.base) I.ok.mod.kin T.kC (thn (ha.run pos pins s σ H _ I h) fun us s1 ⟨vs, H1, I1, r, v, ev, q⟩ => ⟨I1.kIn, ?_⟩) he hpl) hdb)
  subst ev
  cases r with
  | cons rv rn =>
    cases rn
    exact err_call T hr I1 rv (.inl ⟨rfl, rfl⟩) q
theorem pe_err1k (T : PySem.EX.ErrTxt X.prog X.K X.mg x f C fI) (hr : Room k X.A) (hg : Gl X x) (hkw : PK X kws tk) (hall : (backToKw pos (keywordEach kws X.env)).all (·.1.isSome) = true := by rfl)
    (hks : (backToKw pos (keywordEach kws X.env)).filterMap (·.1) = [f] := by rfl) (hdb : (x == ("__debug__" : Str)) = false := by decide) (hpl : ((backTo pos (starEach [] X.env)).any (·.1) || (backToKw pos (keywordEach kws X.env)).any (·.1.isNone)) = false := by rfl) :
    PE X (.Call (.Name x p) [] kws pos) (tErr1 C f tk) := by
  constructor
  intro pins s σ H Q I h
  refine wpAny_Call_Name_kw (ld_glob I hg T.gC (PySem.W.callWith_KW0 (h₀ := X.base) I.ok.mod.kin T.kC hall (thn (hkw.run pos pins s σ H _ I h) fun us s1 ⟨vs, H1, I1, r, v, ev, q⟩ => ⟨I1.kIn, ?_⟩) hpl) hdb)
  subst ev
  rw [hks]
  cases r with
  | cons rv rn =>
    cases rn
    exact err_call T hr I1 rv (.inr ⟨rfl, rfl⟩) q
theorem pa_none {Q : List V → Hp → Prop} {σ : L2.St} {H : Hp} (h : tNil σ H Q) : Q [] H := h
theorem pe_err2 {e2 : Expr} (T : PySem.EY.ErrTxt X.prog X.K X.mg x f g C fI) (hr : Room k X.A) (hg : Gl X x) (ha : PA X [e, e2] ta) (hdb : (x == ("__debug__" : Str)) = false := by decide)
    (he : starEach (e :: [e2]) X.env = (false, eval e X.env) :: starEach [e2] X.env := by exact DL.starEach_cons rfl) (hpl : (backTo pos (starEach [e2] X.env)).any (·.1) = false := by rfl) : PE X (.Call (.Name x p) [e, e2] [] pos) (tErr2 C f g false ta tNil) := by
  constructor
  intro pins s σ H Q I h
  refine wpAny_Call_Name_kw (ld_glob I hg T.gC (PySem.W.callWith_K (h₀ := X.base) I.ok.mod.kin T.kC (thn (ha.run pos pins s σ H _ I h) fun us s1 ⟨vs, H1, I1, r, q⟩ => ⟨I1.kIn, ?_⟩) he hpl) hdb)
  obtain ⟨v, u, ev, q2⟩ := pa_none q
  rw [List.append_nil] at ev
  obtain rfl : vs = [v, u] := ev
  cases r with
  | cons rv rn =>
    cases rn with
    | cons ru rn =>
      cases rn
      exact err_call2 T hr I1 rv ru .pos q2
def tErr2m (C : Addr) (f g : Str) (ta tk : TA) : TE := fun σ H Q => ta σ H fun vs H1 => vs.length = 1 ∧ tk σ H1 fun us H2 => ∃ v u, vs ++ us = [v, u] ∧ ∀ a d, H2 a = none → H2 d = none → d ≠ a → Q (.ref a) (upd (upd H2 d (.xd [(f, v), (g, u)])) a (DL.ErrO C (some d) a))
theorem pe_err2m (T : PySem.EY.ErrTxt X.prog X.K X.mg x f g C fI) (hr : Room k X.A) (hg : Gl X x) (ha : PA X [e] ta) (hkw : PK X kws tk) (hall : (backToKw pos (keywordEach kws X.env)).all (·.1.isSome) = true := by rfl)
    (hks : (backToKw pos (keywordEach kws X.env)).filterMap (·.1) = [g] := by rfl) (hdb : (x == ("__debug__" : Str)) = false := by decide) (he : starEach (e :: []) X.env = (false, eval e X.env) :: starEach [] X.env := by rfl)
    (hpl : ((backTo pos (starEach (e :: []) X.env)).any (·.1) || (backToKw pos (keywordEach kws X.env)).any (·.1.isNone)) = false := by rfl) :
    PE X (.Call (.Name x p) [e] kws pos) (tErr2m C f g ta tk) := by
  constructor
  intro pins s σ H Q I h
  refine wpAny_Call_Name_kw (ld_glob I hg T.gC (PySem.W.callWith_KW (h₀ := X.base) I.ok.mod.kin T.kC hall (thn (ha.run pos pins s σ H _ I h) fun us s1 ⟨vs, H1, I1, r, l1, q⟩ => ?_) hpl he) hdb)
  refine thn (hkw.run pos pins s1 σ H1 _ I1 q) fun ws s2 ⟨zs, H2, I2, rz, v, u, ev, q2⟩ => ⟨I2.kIn, ?_⟩
  rw [hks]
  match vs, l1 with
  | [v1], _ =>
    have ev : v1 :: zs = [v, u] := ev
    injection ev with e1 e2
    subst e1; subst e2
    cases r with
    | cons rv rn =>
      cases rn
      cases rz with
      | cons ru rn =>
        cases rn
        have rv2 : RelV v1 _ := rv
        exact err_call2 T hr I2 rv ru .mix q2
theorem pe_err2k {sw : Bool} (T : PySem.EY.ErrTxt X.prog X.K X.mg x f g C fI) (hr : Room k X.A) (hg : Gl X x) (hkw : PK X kws tk) (hall : (backToKw pos (keywordEach kws X.env)).all (·.1.isSome) = true := by rfl)
    (hks : (backToKw pos (keywordEach kws X.env)).filterMap (·.1) = (if sw then [g, f] else [f, g]) := by rfl) (hdb : (x == ("__debug__" : Str)) = false := by decide)
    (hpl : ((backTo pos (starEach [] X.env)).any (·.1) || (backToKw pos (keywordEach kws X.env)).any (·.1.isNone)) = false := by rfl) :
    PE X (.Call (.Name x p) [] kws pos) (tErr2 C f g sw tNil tk) := by
  constructor
  intro pins s σ H Q I h
  refine wpAny_Call_Name_kw (ld_glob I hg T.gC (PySem.W.callWith_KW0 (h₀ := X.base) I.ok.mod.kin T.kC hall (thn (hkw.run pos pins s σ H _ I (pa_none h)) fun us s1 ⟨zs, H2, I2, rz, v, u, ev, q2⟩ => ⟨I2.kIn, ?_⟩) hpl) hdb)
  rw [hks]
  have ev : zs = _ := ev
  cases sw with
  | true =>
    subst ev
    cases rz with
    | cons ru rn =>
      cases rn with
      | cons rv rn =>
        cases rn
        exact err_call2 T hr I2 rv ru .rev q2
  | false =>
    subst ev
    cases rz with
    | cons rv rn =>
      cases rn with
      | cons ru rn =>
        cases rn
        exact err_call2 T hr I2 rv ru .kws q2
end
end L2
/-! ### plain errors: no own __init__ -/
namespace PySem
namespace EK
open PySem.W PySem.Calls PyProof.Rows PySem.HandSPX
structure Err0 (P : Program) (K : Frag) (mg : Str → Option Value) (x : Str) (C : Addr) : Prop where
  gC : mg x = some (.ref C)
  cls : ∃ nm q N bs bm sn sub ab col dd k0 k1 k2 k3 k5, K.lookup C = some (excClassObj nm q C N bs bm true sn sub ab col dd k0 k1 k2 k3 k5 "ValueError.__new__") ∧ refsVE bm = true
  iC : findIn K (.ref C) "__init__" = some (some (.builtin "ValueError.__init__"))
  kC : keepIn K (.ref C) = true
  exC : subIn K (.ref C) (.type "BaseException") = some true
  tyC : typeIn K (.ref C) = some (.type "type")
section
variable {prog : Program} {w : World} {A : Around} {E : Value → Shared → Prop} {R : Result → Shared → Prop} {s : Shared} {K : Frag} {mg : Str → Option Value} {x : Str} {C : Addr}
/-- a made one -/
structure Made0 (h h' : Heap) (e C : Addr) : Prop where
  keep : ∀ b o, h.get? b = some o → h'.get? b = some o
  new : h.objs.size ≤ e
  obj : ∃ oe vs, h'.get? e = some oe ∧ oe.cls = .ref C ∧ oe.dict = none ∧ oe.data = .fields vs ∧ vs[1]? = some .none
theorem made0 (T : Err0 prog K mg x C) (X : K.In s.heap) (hq : ∀ h' tk e, Made0 s.heap h' e C → R (.ok (.ret (.ref e))) { s with heap := h', toks := tk }) : codeAny (model prog w) A (.call (.ref C) ⟨[], []⟩) R s := by
  obtain ⟨nm, q, N, bs, bm, sn, sub, ab, col, dd, k0, k1, k2, k3, k5, hC, hbm⟩ := T.cls
  obtain ⟨hp, g, dr, tk, os⟩ := s
  have k : ∀ b o, hp.get? b = some o → ((hp.push (kdv_tup [])).push (excO C hp.objs.size)).get? b = some o := fun b o e => Heap.get?_push_of_some _ (Heap.get?_push_of_some _ e)
  have hget : ((hp.push (kdv_tup [])).push (excO C hp.objs.size)).get? (hp.objs.size + 1) = some (excO C hp.objs.size) := by heap_get
  refine call_kw (fI := .builtin "ValueError.__init__") F.excBase_ValueError (fun X => refsVE_contains X bm hbm) (X _ _ hC) (looks_findIn X T.iC) (fun self A Q E s k q => wpAny_of_eq (F.excBase_ValueError.init.bind self) q) (Nat.zero_le _) ?_
  refine init_base F.excBase_ValueError (fun Y => refsVE_contains Y bm hbm) (k _ _ (X _ _ hC)) hget (Nat.zero_le _) fun h' t1 k2 hx => ?_
  exact ⟨rfl, hq h' tk (hp.objs.size + 1) ⟨fun b o e => k2 b o (Nat.ne_of_lt (Nat.lt_succ_of_lt (Heap.lt_size e))) (k b o e), Nat.le_succ _, ⟨_, _, hx, rfl, rfl, rfl, rfl⟩⟩⟩
end
end EK
end PySem
namespace L2
open PySem PySem.Spec PyProof.Rows
def tErr0 (C : Addr) : TE := fun _ H Q => ∀ a, H a = none → Q (.ref a) (upd H a (DL.ErrO C none a))
section
variable {X : Cx} {C : Addr} {x : Str} {p pos : Pos}
theorem pe_err0 (T : PySem.EK.Err0 X.prog X.K X.mg x C) (hg : Gl X x) (hdb : (x == ("__debug__" : Str)) = false := by decide) : PE X (.Call (.Name x p) [] [] pos) (tErr0 C) := by
  constructor
  intro pins s σ H Q I h
  refine wpAny_Call_Name_kw (ld_glob I hg T.gC (PySem.W.callWith_K0 I.kIn T.kC ?_) hdb)
  have kin := I.kIn
  have fr := I.hok
  obtain ⟨hp, gs, dr, tk, os⟩ := s
  refine wpAny_call (PySem.EK.made0 T kin fun h' tk' e M => ?_)
  obtain ⟨oe, fv, hoe, hc, hd, hdat, _⟩ := M.obj
  have J := I.laid (t' := tk') M.keep M.new (errO_ok hoe hc hd hdat)
  exact ⟨.ref e, _, J, rfl, h e (fr.fresh M.new)⟩
theorem pmk_err0 (T : PySem.EK.Err0 X.prog X.K X.mg x C) (hg : Gl X x) (hdb : (x == ("__debug__" : Str)) = false := by decide) : PMk X (.Call (.Name x p) [] [] pos) (fun _ H Q => Q (.ref C) none H) := by
  intro pins s σ H Q I h
  refine wpAny_Call_Name_kw (ld_glob I hg T.gC (PySem.W.callWith_K0 I.kIn T.kC ?_) hdb)
  have kin := I.kIn
  have fr := I.hok
  have br := I.bare
  obtain ⟨hp, gs, dr, tk, os⟩ := s
  refine wpAny_call (PySem.EK.made0 T kin fun h' tk' e M => ?_)
  show MkP X pins σ Q (.ref e) ⟨h', gs, dr, tk', os⟩
  obtain ⟨oe, fv, hoe, hc, hd, hdat, h1⟩ := M.obj
  obtain ⟨G', g1, g2⟩ := restrict h' fun b => decide (b ≠ e)
  have gk : ∀ b, b ≠ e → G'.get? b = h'.get? b := fun b hb => g1 b (decide_eq_true hb)
  have ge : G'.get? e = none := g2 e (by simp)
  have old : ∀ b o, hp.get? b = some o → G'.get? b = some o := fun b o q => (gk b (Nat.ne_of_lt (Nat.lt_of_lt_of_le (Heap.lt_size q) M.new))).trans (M.keep b o q)
  have J : Inv X pins σ H ⟨G', gs, dr, tk', os⟩ := I.kept (t' := tk') old
  refine ⟨e, oe, fv, ⟨G', gs, dr, tk', os⟩, _, .ref C, none, rfl, J, fun b o q => ?_, ge, hoe, ⟨hc, hd⟩, hdat, h1, fr.fresh M.new, rfl, br, raises_own T.exC T.tyC, h⟩
  by_cases hb : b = e
  · have q' : G'.get? b = some o := q
    rw [hb, ge] at q'; cases q'
  · exact (gk b hb).symm.trans q
end
/-! ### a field, a kind -/
def tErrF (K : PySem.W.Frag) (f : Str) (te : TE) : TE := fun σ H Q => te σ H fun x H1 => ∃ (a C d : Addr) (fs : List (Str × V)) (v : V), x = .ref a ∧ H1 a = some (DL.ErrO C (some d) a) ∧ H1 d = some (.xd fs) ∧ fs.lookup f = some v ∧ XfC K C ∧ PySem.W.findIn K (.ref C) f = some none ∧ Q v H1
theorem errO_at {P : Program} {w : World} {H : Hp} {h : Heap} {a C : Addr} {dd : Option Addr} (hok : HOk P w H h) (e : H a = some (DL.ErrO C dd a)) : ∃ oe vs, h.get? a = some oe ∧ oe.cls = .ref C ∧ oe.dict = dd ∧ oe.data = .fields vs := by
  have x : ObjOk P w H h a (.ext fun h => ∃ (oe : Obj) (vs : Array Value), h.get? a = some oe ∧ oe.cls = .ref C ∧ oe.dict = dd ∧ oe.data = .fields vs) := hok a _ e
  exact x.1
section
variable {X : Cx} {e : Expr} {te : TE} {f : Str} {pos : Pos}
theorem pe_errF (he : PE X e te) (hb : attributeBase e f X.env (eval e X.env) = eval e X.env := by rfl) : PE X (.Attribute e f pos) (tErrF X.K f te) := by
  refine ⟨fun pins s σ H Q I h => ?_⟩
  refine attr_of hb (thn (he.run pins s σ H _ I h) fun u s1 hh => ?_)
  obtain ⟨x, H1, I1, rx, a, C, d, fs, v, rfl, ea, ed, l, T, hno, q⟩ := hh
  obtain rfl : u = Value.ref a := rx
  obtain ⟨oe, vs, h1, h2, h3, h4⟩ := errO_at I1.hok ea
  have hx : ObjOk X.prog X.w H1 s1.heap d (.xd fs) := I1.hok d _ ed
  obtain ⟨mA, hns, hr⟩ := hx
  obtain ⟨od, ho, hl⟩ := lookIn_ns hns
  obtain ⟨u, hu, ru⟩ := RelO.some_of (v := v) (o := mA f) (by rw [← l]; exact hr f)
  have J : PySem.W.InstAt s1.heap a oe C (some od) := ⟨h1, h2, by unfold PySem.W.notCls; rw [h4] <;> rfl, by rw [h3]; exact ho⟩
  exact HandSPX.exc_get I1.kIn J T.ga T.gg T.exC (PySem.W.findObj_own T.hdC hno rfl (by rw [hl, hu])) (handed_of ru) ⟨v, H1, I1.tok _, ru, q⟩
/-- isinstance(e, c), e an error -/
def rIsErr (K : PySem.W.Frag) : List V → Hp → VK → Prop := fun xs H Q => ∃ (a C : Addr) (dd : Option Addr) (c : V) (cv : Value) (b : Bool), xs = [.ref a, c] ∧ H a = some (DL.ErrO C dd a) ∧ (dd = none ∨ ∃ d fs, dd = some d ∧ H d = some (.xd fs)) ∧ ExcC K C ∧ (∀ u, RelV c u → u = cv) ∧ PySem.W.kitOne K (.ref C) cv = some b ∧ Q (.bl b) H
theorem call_isErr : CallR X (.builtin "isinstance") (rIsErr X.K) := by
  intro pins s σ H xs us Q I r h
  obtain ⟨a, D, dd, c, cv, b, rfl, ea, hx, C, hcv, e, q⟩ := h
  cases r with
  | cons rx rr =>
    cases rr with
    | cons rt rr =>
      cases rr
      cases rx
      have ec := hcv _ rt
      subst ec
      obtain ⟨oe, vs, h1, h2, h3, h4⟩ := errO_at I.hok ea
      rcases hx with rfl | ⟨d, fs, rfl, hx⟩
      · have J : PySem.W.InstAt s.heap a oe D none := by
          obtain ⟨oc, od, oda, osl⟩ := oe
          dsimp only at h2 h3 h4
          subst h2 h3 h4
          exact ⟨h1, rfl, rfl, trivial⟩
        exact PySem.W.kia_one (PySem.W.handS_kitx_exc C.hg C.hk C.hs C.hd C.ha C.hn C.ht C.hm) I.kIn J e (fun z => nomatch z) fun tk => ⟨.bl b, H, I.kept (t' := tk) fun _ _ z => z, rfl, q⟩
      · obtain ⟨mA, hns, hr⟩ := (show ObjOk X.prog X.w H s.heap d (.xd fs) from I.hok d _ hx)
        obtain ⟨od, ho, hl⟩ := lookIn_ns hns
        have J : PySem.W.InstAt s.heap a oe D (some od) := by
          obtain ⟨oc, od', oda, osl⟩ := oe
          dsimp only at h2 h3 h4
          subst h2 h3 h4
          exact ⟨h1, rfl, rfl, ho⟩
        obtain ⟨cd, hc, _⟩ := PySem.W.any_some C.hd
        exact PySem.W.kia_one (PySem.W.kitx_exc (by rw [hc]; rfl) C.hg C.hk C.hs C.ha C.hn C.ht C.hm) I.kIn J e (fun z => nomatch z) fun tk => ⟨.bl b, H, I.kept (t' := tk) fun _ _ z => z, rfl, q⟩
end
end L2

set_option Elab.async false
set_option linter.all false
set_option maxRecDepth 100000
set_option maxHeartbeats 4000000
set_option autoImplicit false
/-! Own errors as values, over trees. -/
namespace L2
open PySem PySem.Spec PyProof.Rows
section
variable {X : Cx} {C fI : Addr} {x f g : Str} {k : Nat} {kws : List Keyword} {tk : TA} {p pos : Pos} {pins : List (Addr × Obj)} {σ : L2.St} {H : Hp} {s : Shared} {Q : XK} {v u : V} {v' u' : Value}
theorem err_mk2 (T : PySem.EY.ErrTxt X.prog X.K X.mg x f g C fI) (hr : Room k X.A) (I1 : Inv X pins σ H s) (rv : RelV v v') (ru : RelV u u') {us : List Value} {kw : List (Str × Value)} (har : PySem.EY.ArgsOf f g v' u' [] ⟨us, kw⟩)
    (h : ∀ d, H d = none → Q (.ref C) (some d) (upd H d (.xd [(f, v), (g, u)]))) : wpAny (model X.prog X.w) X.A (call (.ref C) us kw) (MkP X pins σ Q) X.xe s := by
  have hlim := I1.nolimit
  have bk1 := I1.bk
  obtain ⟨hp, gs, dr, tk, os⟩ := s
  refine wpAny_call (PySem.EY.err_made T I1.ok.mod bk1 I1.kIn hlim (by have := hr.dp; omega) har fun h' tk' e d M => ?_)
  show MkP X pins σ Q (.ref e) ⟨h', gs, dr, tk', os⟩
  obtain ⟨oe, fv, hoe, hc, hd, hdat, h1⟩ := M.obj
  have hns := M.ns
  obtain ⟨G', g1, g2⟩ := restrict h' fun b => decide (b ≠ e)
  have gk : ∀ b, b ≠ e → G'.get? b = h'.get? b := fun b hb => g1 b (decide_eq_true hb)
  have ge : G'.get? e = none := g2 e (by simp)
  have old : ∀ b o, hp.get? b = some o → G'.get? b = some o := fun b o q => (gk b (Nat.ne_of_lt (Nat.lt_of_lt_of_le (Heap.lt_size q) M.new))).trans (M.keep b o q)
  have ob : ObjOk X.prog X.w (upd H d (.xd [(f, v), (g, u)])) G' d (.xd [(f, v), (g, u)]) := ⟨_, hns.at (fun o q => (gk d M.dne).trans q), fun y => relO_err2 rv ru T.gf y⟩
  have J : Inv X pins σ (upd H d (.xd [(f, v), (g, u)])) ⟨G', gs, dr, tk', os⟩ := I1.laid (t' := tk') old M.dbig ob
  refine ⟨e, oe, fv, ⟨G', gs, dr, tk', os⟩, _, .ref C, some d, rfl, J, fun b o q => ?_, ge, hoe, ⟨hc, hd⟩, hdat, h1, ?_, rfl, I1.bare, raises_own T.exC T.tyC, h d (I1.hok.fresh M.dbig)⟩
  · by_cases hb : b = e
    · have q' : G'.get? b = some o := q
      rw [hb, ge] at q'; cases q'
    · exact (gk b hb).symm.trans q
  · rw [upd_ne (Ne.symm M.dne)]
    exact I1.hok.fresh M.new
def tMkErr2k (f g : Str) (sw : Bool) (C : Addr) (tk : TA) : St → Hp → XK → Prop := fun σ H Q => tk σ H fun vs H1 => ∃ v u, vs = (if sw then [u, v] else [v, u]) ∧ ∀ d, H1 d = none → Q (.ref C) (some d) (upd H1 d (.xd [(f, v), (g, u)]))
theorem pmk_err2k {sw : Bool} (T : PySem.EY.ErrTxt X.prog X.K X.mg x f g C fI) (hr : Room k X.A) (hg : Gl X x) (hkw : PK X kws tk) (hall : (backToKw pos (keywordEach kws X.env)).all (·.1.isSome) = true := by rfl)
    (hks : (backToKw pos (keywordEach kws X.env)).filterMap (·.1) = (if sw then [g, f] else [f, g]) := by rfl) (hdb : (x == ("__debug__" : Str)) = false := by decide)
    (hpl : ((backTo pos (starEach [] X.env)).any (·.1) || (backToKw pos (keywordEach kws X.env)).any (·.1.isNone)) = false := by rfl) :
    PMk X (.Call (.Name x p) [] kws pos) (tMkErr2k f g sw C tk) := by
  intro pins s σ H Q I h
  refine wpAny_Call_Name_kw (ld_glob I hg T.gC (PySem.W.callWith_KW0 (h₀ := X.base) I.ok.mod.kin T.kC hall (thn (hkw.run pos pins s σ H _ I h) fun us s1 ⟨zs, H2, I2, rz, v, u, ev, q2⟩ => ⟨I2.kIn, ?_⟩) hpl) hdb)
  rw [hks]
  have ev : zs = _ := ev
  cases sw with
  | true =>
    subst ev
    cases rz with
    | cons ru rn =>
      cases rn with
      | cons rv rn =>
        cases rn
        exact err_mk2 T hr I2 rv ru .rev q2
  | false =>
    subst ev
    cases rz with
    | cons rv rn =>
      cases rn with
      | cons ru rn =>
        cases rn
        exact err_mk2 T hr I2 rv ru .kws q2
end
end L2
namespace DL
open PySem PySem.Spec PyProof.Rows L2
theorem notTbl_err {C : Addr} {dd : Option Addr} {a : Addr} : notTbl (ErrO C dd a) := fun ps z => by
  have z' : HO.ext _ = HO.tbl ps := z
  cases z'
section
variable {X : Cx} {M : LK} {W : WX} {C fI : Addr} {x f g : Str} {e : Expr} {es : List Expr} {kws : List Keyword} {fa fk : DTA} {k : Nat} {p pos : Pos}
variable {pn : Addr} {G G1 H H1 : Hp} {n : NS} {σ : L2.St} {δ : DEnv}
/-- an error laid -/
theorem Rep.err {a d : Addr} {fs : List (Str × V)} {xs : List D} (R : Rep M pn G n σ δ H) (ha : H a = none) (hd : H d = none) (ne : d ≠ a) (i : IsL M G (fs.map (·.2)) xs) :
    ∃ G1, Rep M pn G1 n σ δ (upd (upd H d (.xd fs)) a (ErrO C (some d) a)) ∧ Adv pn G H G1 (upd (upd H d (.xd fs)) a (ErrO C (some d) a)) ∧ Is M G1 (.ref a) (.err C (fs.map (·.1)) xs) := by
  obtain ⟨R2, A2⟩ := R.lay (o := .xd fs) hd notTbl_xd
  have na : (upd H d (.xd fs)) a = none := by rw [upd_ne (Ne.symm ne)]; exact ha
  obtain ⟨R3, A3⟩ := R2.lay (o := ErrO C (some d) a) na notTbl_err
  have A := R.tr A2 A3
  refine ⟨_, R3, A, ?_⟩
  simp only [Is]
  exact ⟨a, some d, fs, rfl, upd_same, (show upd _ a _ d = some (.xd fs) by rw [upd_ne ne, upd_same]), rfl, IsL.up A.ge _ _ i⟩
/-- C(e), C an own error of one field f -/
def dErr1 (C : Addr) (f : Str) (fa : DTA) : DTE := fun δ n q e => fa δ n (fun xs n1 => ∃ d, xs = [d] ∧ q (.err C [f] [d]) n1) e
theorem err1_lift (σ : L2.St) (H : Hp) (Q : VK) (h : liftE M W (dErr1 C f fa) σ H Q) : tErr1 C f (liftA M W fa) σ H Q := by
  obtain ⟨pn, G, n, δ, q, e, R, hf, hQ, hX⟩ := h
  refine ⟨pn, G, n, δ, _, e, R, hf, fun G1 vs ds n1 H1 A1 R1 i1 h1 => ?_, hX⟩
  obtain ⟨d, rfl, h1⟩ := h1
  obtain ⟨v, rfl, iv⟩ := i1.one
  refine ⟨v, rfl, fun a b ha hb ne => ?_⟩
  obtain ⟨G2, R2, A2, i2⟩ := R1.err (fs := [(f, v)]) (xs := [d]) ha hb ne (by simp only [List.map, IsL]; exact ⟨iv, trivial⟩)
  exact hQ G2 _ _ n1 _ (R.tr A1 A2) R2 i2 h1
theorem dp_err1 (T : PySem.EX.ErrTxt X.prog X.K X.mg x f C fI) (hr : Room k X.A) (hg : Gl X x) (ha : PA X [e] (liftA M W fa)) (hdb : (x == ("__debug__" : Str)) = false := by decide)
    (he : starEach (e :: []) X.env = (false, eval e X.env) :: starEach [] X.env := by rfl) (hpl : (backTo pos (starEach [] X.env)).any (·.1) = false := by rfl) : PE X (.Call (.Name x p) [e] [] pos) (liftE M W (dErr1 C f fa)) := PEw (pe_err1 T hr hg ha hdb he hpl) err1_lift
theorem dp_err1k (T : PySem.EX.ErrTxt X.prog X.K X.mg x f C fI) (hr : Room k X.A) (hg : Gl X x) (hkw : PK X kws (liftA M W fa)) (hall : (backToKw pos (keywordEach kws X.env)).all (·.1.isSome) = true := by rfl)
    (hks : (backToKw pos (keywordEach kws X.env)).filterMap (·.1) = [f] := by rfl) (hdb : (x == ("__debug__" : Str)) = false := by decide) (hpl : ((backTo pos (starEach [] X.env)).any (·.1) || (backToKw pos (keywordEach kws X.env)).any (·.1.isNone)) = false := by rfl) :
    PE X (.Call (.Name x p) [] kws pos) (liftE M W (dErr1 C f fa)) := PEw (pe_err1k T hr hg hkw hall hks hdb hpl) err1_lift
/-- C(e, ..), C an own error of two fields -/
def dErr2 (C : Addr) (f g : Str) (sw : Bool) (fa fk : DTA) : DTE := fun δ n q e => fa δ n (fun xs n1 => fk δ n1 (fun ys n2 => ∃ d1 d2, xs ++ ys = (if sw then [d2, d1] else [d1, d2]) ∧ q (.err C [f, g] [d1, d2]) n2) e) e
theorem err2_lift {sw : Bool} (σ : L2.St) (H : Hp) (Q : VK) (h : liftE M W (dErr2 C f g sw fa fk) σ H Q) : tErr2 C f g sw (liftA M W fa) (liftA M W fk) σ H Q := by
  obtain ⟨pn, G, n, δ, q, e, R, hf, hQ, hX⟩ := h
  refine ⟨pn, G, n, δ, _, e, R, hf, fun G1 vs ds n1 H1 A1 R1 i1 h1 => ?_, hX⟩
  refine ⟨pn, G1, n1, δ, _, e, R1, h1, fun G2 us es n2 H2 A2 R2 i2 h2 => ?_, hX.on R A1⟩
  obtain ⟨d1, d2, he, h2⟩ := h2
  have i12 := IsL.append (IsL.up A2.ge _ _ i1) i2
  rw [he] at i12
  have A12 := R.tr A1 A2
  cases sw with
  | true =>
    obtain ⟨u, v, e1, iu, iv⟩ := i12.two
    refine ⟨v, u, e1, fun a b ha hb ne => ?_⟩
    obtain ⟨G3, R3, A3, i3⟩ := R2.err (fs := [(f, v), (g, u)]) (xs := [d1, d2]) ha hb ne (by simp only [List.map, IsL]; exact ⟨iv, iu, trivial⟩)
    exact hQ G3 _ _ n2 _ (R.tr A12 A3) R3 i3 h2
  | false =>
    obtain ⟨v, u, e1, iv, iu⟩ := i12.two
    refine ⟨v, u, e1, fun a b ha hb ne => ?_⟩
    obtain ⟨G3, R3, A3, i3⟩ := R2.err (fs := [(f, v), (g, u)]) (xs := [d1, d2]) ha hb ne (by simp only [List.map, IsL]; exact ⟨iv, iu, trivial⟩)
    exact hQ G3 _ _ n2 _ (R.tr A12 A3) R3 i3 h2
theorem nil_lift {q : List D → NS → Prop} {ex : DX} {P : List V → Hp → Prop} (R : Rep M pn G n σ δ H) (h : q [] n) (hQ : ∀ G' vs ds n' H', Adv pn G H G' H' → Rep M pn G' n' σ δ H' → IsL M G' vs ds → q ds n' → P vs H') : P [] H := hQ G [] [] n H Adv.refl R (by simp only [IsL]) h
theorem dp_err2 {e2 : Expr} (T : PySem.EY.ErrTxt X.prog X.K X.mg x f g C fI) (hr : Room k X.A) (hg : Gl X x) (ha : PA X [e, e2] (liftA M W fa)) (hdb : (x == ("__debug__" : Str)) = false := by decide)
    (he : starEach (e :: [e2]) X.env = (false, eval e X.env) :: starEach [e2] X.env := by exact DL.starEach_cons rfl) (hpl : (backTo pos (starEach [e2] X.env)).any (·.1) = false := by rfl) : PE X (.Call (.Name x p) [e, e2] [] pos) (liftE M W (dErr2 C f g false fa dNil)) :=
  PEw (pe_err2 T hr hg ha hdb he hpl) fun σ H Q h => by
    obtain ⟨pn, G, n, δ, q, ex, R, hf, hQ, hX⟩ := err2_lift σ H Q h
    refine ⟨pn, G, n, δ, q, ex, R, hf, fun G' vs ds n' H' A' R' i' h' => ?_, hX⟩
    obtain ⟨pn2, G2, n2, δ2, q2, ex2, R2, hf2, hQ2, _⟩ := hQ G' vs ds n' H' A' R' i' h'
    exact hQ2 G2 [] [] n2 H' Adv.refl R2 (by simp only [IsL]) hf2
def dErr2m (C : Addr) (f g : Str) (fa fk : DTA) : DTE := fun δ n q e => fa δ n (fun xs n1 => xs.length = 1 ∧ fk δ n1 (fun ys n2 => ∃ d1 d2, xs ++ ys = [d1, d2] ∧ q (.err C [f, g] [d1, d2]) n2) e) e
theorem dp_err2m (T : PySem.EY.ErrTxt X.prog X.K X.mg x f g C fI) (hr : Room k X.A) (hg : Gl X x) (ha : PA X [e] (liftA M W fa)) (hkw : PK X kws (liftA M W fk)) (hall : (backToKw pos (keywordEach kws X.env)).all (·.1.isSome) = true := by rfl)
    (hks : (backToKw pos (keywordEach kws X.env)).filterMap (·.1) = [g] := by rfl) (hdb : (x == ("__debug__" : Str)) = false := by decide) (he : starEach (e :: []) X.env = (false, eval e X.env) :: starEach [] X.env := by rfl)
    (hpl : ((backTo pos (starEach (e :: []) X.env)).any (·.1) || (backToKw pos (keywordEach kws X.env)).any (·.1.isNone)) = false := by rfl) :
    PE X (.Call (.Name x p) [e] kws pos) (liftE M W (dErr2m C f g fa fk)) :=
  PEw (pe_err2m T hr hg ha hkw hall hks hdb he hpl) fun σ H Q ⟨pn, G, n, δ, q, e, R, hf, hQ, hX⟩ => by
    refine ⟨pn, G, n, δ, _, e, R, hf, fun G1 vs ds n1 H1 A1 R1 i1 h1 => ?_, hX⟩
    refine ⟨i1.length.trans h1.1, pn, G1, n1, δ, _, e, R1, h1.2, fun G2 us es n2 H2 A2 R2 i2 h2 => ?_, hX.on R A1⟩
    obtain ⟨d1, d2, he, h2⟩ := h2
    have i12 := IsL.append (IsL.up A2.ge _ _ i1) i2
    rw [he] at i12
    have A12 := R.tr A1 A2
    obtain ⟨v, u, e1, iv, iu⟩ := i12.two
    refine ⟨v, u, e1, fun a b ha hb ne => ?_⟩
    obtain ⟨G3, R3, A3, i3⟩ := R2.err (fs := [(f, v), (g, u)]) (xs := [d1, d2]) ha hb ne (by simp only [List.map, IsL]; exact ⟨iv, iu, trivial⟩)
    exact hQ G3 _ _ n2 _ (R.tr A12 A3) R3 i3 h2
theorem dp_err2k {sw : Bool} (T : PySem.EY.ErrTxt X.prog X.K X.mg x f g C fI) (hr : Room k X.A) (hg : Gl X x) (hkw : PK X kws (liftA M W fk)) (hall : (backToKw pos (keywordEach kws X.env)).all (·.1.isSome) = true := by rfl)
    (hks : (backToKw pos (keywordEach kws X.env)).filterMap (·.1) = (if sw then [g, f] else [f, g]) := by rfl) (hdb : (x == ("__debug__" : Str)) = false := by decide)
    (hpl : ((backTo pos (starEach [] X.env)).any (·.1) || (backToKw pos (keywordEach kws X.env)).any (·.1.isNone)) = false := by rfl) :
    PE X (.Call (.Name x p) [] kws pos) (liftE M W (dErr2 C f g sw dNil fk)) :=
  PEw (pe_err2k (sw := sw) T hr hg hkw hall hks hdb hpl) fun σ H Q h => by
    obtain ⟨pn, G, n, δ, q, e, R, hf, hQ, hX⟩ := h
    refine err2_lift (fa := dNil) (fk := fk) (M := M) (W := W) σ H Q ⟨pn, G, n, δ, q, e, R, hf, hQ, hX⟩ |> fun z => ?_
    obtain ⟨pn2, G2, n2, δ2, q2, e2, R2, hf2, hQ2, _⟩ := z
    exact hQ2 G2 [] [] n2 H Adv.refl R2 (by simp only [IsL]) hf2
/-- C(), C a plain error -/
def dErr0 (C : Addr) : DTE := fun δ n q e => q (.err C [] []) n
theorem dp_err0 (T : PySem.EK.Err0 X.prog X.K X.mg x C) (hg : Gl X x) (hdb : (x == ("__debug__" : Str)) = false := by decide) : PE X (.Call (.Name x p) [] [] pos) (liftE M W (dErr0 C)) :=
  PEw (pe_err0 T hg hdb) fun σ H Q ⟨pn, G, n, δ, q, e, R, hf, hQ, hX⟩ => fun a ha => by
    obtain ⟨R2, A2⟩ := R.lay (o := ErrO C none a) ha notTbl_err
    exact hQ _ (.ref a) (.err C [] []) n _ A2 R2 (by simp only [Is]; exact ⟨a, none, [], rfl, upd_same, rfl, rfl, by simp only [List.map, IsL]⟩) hf
/-- raise C(), C a plain error -/
def dRaise0 (C : Addr) : DTS := fun k δ n => k.ex δ C [] [] n
theorem ds_raise0 {pos2 : Pos} (hc : X.calm = true) (T : PySem.EK.Err0 X.prog X.K X.mg x C) (tk : Takes X W) (hg : Gl X x) (hdb : (x == ("__debug__" : Str)) = false := by decide) : PS X (.Raise (some (.Call (.Name x p) [] [] pos)) none pos2) (liftS M W (dRaise0 C)) :=
  PSw (ps_raise hc tk (pmk_err0 T hg hdb)) fun D₀ σ H ⟨pn, G, n, δ, k, R, hf, s⟩ => s.ex G σ δ C none [] [] n H Adv.refl R ⟨[], rfl, rfl, by simp only [List.map, IsL]⟩ hf
/-- raise C(g = .., f = ..) -/
def dRaise2k (C : Addr) (f g : Str) (sw : Bool) (fk : DTA) : DTS := fun k δ n => fk δ n (fun xs n1 => ∃ d1 d2, xs = (if sw then [d2, d1] else [d1, d2]) ∧ k.ex δ C [f, g] [d1, d2] n1) k.ex
theorem ds_raise2k {pos2 : Pos} {sw : Bool} (hc : X.calm = true) (T : PySem.EY.ErrTxt X.prog X.K X.mg x f g C fI) (hr : Room k X.A) (tk : Takes X W) (hg : Gl X x) (hkw : PK X kws (liftA M W fk)) (hall : (backToKw pos (keywordEach kws X.env)).all (·.1.isSome) = true := by rfl)
    (hks : (backToKw pos (keywordEach kws X.env)).filterMap (·.1) = (if sw then [g, f] else [f, g]) := by rfl) (hdb : (x == ("__debug__" : Str)) = false := by decide)
    (hpl : ((backTo pos (starEach [] X.env)).any (·.1) || (backToKw pos (keywordEach kws X.env)).any (·.1.isNone)) = false := by rfl) :
    PS X (.Raise (some (.Call (.Name x p) [] kws pos)) none pos2) (liftS M W (dRaise2k C f g sw fk)) :=
  PSw (ps_raise hc tk (pmk_err2k (sw := sw) T hr hg hkw hall hks hdb hpl)) fun D₀ σ H ⟨pn, G, n, δ, k, R, hf, s⟩ => by
    refine ⟨pn, G, n, δ, _, k.ex, R, hf, fun G1 vs ds n1 H1 A1 R1 i1 h1 => ?_, s.xe⟩
    obtain ⟨d1, d2, rfl, h1⟩ := h1
    cases sw with
    | true =>
      obtain ⟨u, v, rfl, iu, iv⟩ := i1.two
      refine ⟨v, u, rfl, fun d hd => ?_⟩
      obtain ⟨R2, A2⟩ := R1.lay (o := .xd [(f, v), (g, u)]) hd notTbl_xd
      exact s.ex _ σ δ C (some d) [f, g] [d1, d2] n1 _ (R.tr A1 A2) R2 ⟨[(f, v), (g, u)], upd_same, rfl, by simp only [List.map, IsL]; exact ⟨Is.up A2.ge d1 v iv, Is.up A2.ge d2 u iu, trivial⟩⟩ h1
    | false =>
      obtain ⟨v, u, rfl, iv, iu⟩ := i1.two
      refine ⟨v, u, rfl, fun d hd => ?_⟩
      obtain ⟨R2, A2⟩ := R1.lay (o := .xd [(f, v), (g, u)]) hd notTbl_xd
      exact s.ex _ σ δ C (some d) [f, g] [d1, d2] n1 _ (R.tr A1 A2) R2 ⟨[(f, v), (g, u)], upd_same, rfl, by simp only [List.map, IsL]; exact ⟨Is.up A2.ge d1 v iv, Is.up A2.ge d2 u iu, trivial⟩⟩ h1
/-- e.f, e an error -/
def dErrF (f : Str) (fe : DTE) (ok : Addr → Prop) : DTE := fun δ n q e => fe δ n (fun x n1 => match x with
  | .err C ns xs => ok C ∧ ∃ d, (ns.zip xs).lookup f = some d ∧ q d n1
  | _ => False) e
def ErrFOk (K : PySem.W.Frag) (f : Str) (C : Addr) : Prop := XfC K C ∧ PySem.W.findIn K (.ref C) f = some none
theorem dp_errF {fe : DTE} {ok : Addr → Prop} (hok : ∀ C, ok C → ErrFOk X.K f C) (he : PE X e (liftE M W fe)) (hb : attributeBase e f X.env (eval e X.env) = eval e X.env := by rfl) : PE X (.Attribute e f pos) (liftE M W (dErrF f fe ok)) :=
  PEw (pe_errF he hb) fun σ H Q ⟨pn, G, n, δ, q, e, R, hf, hQ, hX⟩ => by
    refine ⟨pn, G, n, δ, _, e, R, hf, fun G1 v x n1 H1 A1 R1 i1 h1 => ?_, hX⟩
    cases x with
    | err C ns xs =>
      obtain ⟨hC, d, hd, h1⟩ := h1
      simp only [Is] at i1
      obtain ⟨a, dd, fs, rfl, g1, g2, rfl, g3⟩ := i1
      obtain ⟨u, hu, iu⟩ := xd_look g3 hd
      cases dd with
      | none =>
        cases (show fs = [] from g2)
        cases hu
      | some b => exact ⟨a, C, b, fs, u, rfl, R1.ex _ _ g1, R1.ex _ _ g2, hu, (hok C hC).1, (hok C hC).2, hQ G1 u d n1 H1 A1 R1 iu h1⟩
    | _ => exact h1.elim
/-- isinstance(x, c), x perhaps an error -/
def gIsX (K : PySem.W.Frag) : GC := fun xs n q => match xs with
  | [.err C ns ys, c] => ExcC K C ∧ ∃ u b, clsD c = some u ∧ PySem.W.kitOne K (.ref C) u = some b ∧ q (.bl b) n
  | xs => gIsi K xs n q
theorem drc_isX (hK : X.K = M.L.K) : DRC M (fun xs H Q => rIsi X.K xs H Q ∨ rIsErr X.K xs H Q) (gIsX M.L.K) := by
  intro pn G n σ δ H vs xs q Q R iv h k
  unfold gIsX at h
  split at h
  · rename_i C ns ys c
    obtain ⟨v, v', rfl, iw, iw'⟩ := iv.two
    obtain ⟨hC, u, b, hc, hb, h⟩ := h
    simp only [Is] at iw
    obtain ⟨a, dd, fs, rfl, g1, g2, _⟩ := iw
    have hx : dd = none ∨ ∃ d fs, dd = some d ∧ H d = some (.xd fs) := by
      cases dd with
      | none => exact .inl rfl
      | some d => exact .inr ⟨d, fs, rfl, R.ex _ _ g2⟩
    exact .inr ⟨a, C, dd, v', u, b, rfl, R.ex _ _ g1, hx, by rw [hK]; exact hC, fun w rw => (clsD_ok hc iw').eq rw, by rw [hK]; exact hb, k G _ _ n H Adv.refl R (by simp only [Is]) h⟩
  · exact .inl (drc_isi hK pn G n σ δ H vs xs q Q R iv h k)
theorem call_isX : CallR X (.builtin "isinstance") (fun xs H Q => rIsi X.K xs H Q ∨ rIsErr X.K xs H Q) := by
  intro pins s σ H xs us Q I r h
  rcases h with h | h
  · exact call_isi pins s σ H xs us Q I r h
  · exact call_isErr pins s σ H xs us Q I r h
/-- {} -/
def dDct : DTE := fun δ n q e => q .dct n
theorem dp_dct : PE X (.Dict [] [] pos) (liftE M W dDct) :=
  PEw pe_dnewK fun σ H Q ⟨pn, G, n, δ, q, e, R, hf, hQ, hX⟩ => fun p hp => by
    obtain ⟨R2, A2⟩ := R.lay (o := .dK []) hp notTbl_dK
    exact hQ _ (.ref p) .dct n _ A2 R2 (by simp only [Is]; exact ⟨p, rfl, upd_same⟩) hf
/-- !=, perhaps of two empty dicts -/
def gNeX : GR2 := fun x y n q => match x, y with
  | .dct, .dct => q (.bl false) n
  | x, y => gNe x y n q
theorem dr_neX : DR2 M (fun x y H Q => (rNe x y H Q ∨ rNeD M.L.K x y H Q) ∨ rNeDA x y H Q) gNeX := by
  intro pn G n σ δ H v u x y q Q R ix iy h k
  unfold gNeX at h
  split at h
  · simp only [Is] at ix iy
    obtain ⟨p1, rfl, g1⟩ := ix
    obtain ⟨p2, rfl, g2⟩ := iy
    exact .inr ⟨p1, p2, [], [], rfl, rfl, R.ex _ _ g1, R.ex _ _ g2, rfl, fun p hp => (List.not_mem_nil hp).elim, k G (.bl false) (.bl false) n H Adv.refl R (by simp only [Is]) h⟩
  · exact .inl (dr_ne pn G n σ δ H v u x y q Q R ix iy h k)
theorem op_neDX (hK : X.K = M.L.K) (hr : Room k X.A) : OpR X (compareOp .NotEq) (fun x y H Q => (rNe x y H Q ∨ rNeD M.L.K x y H Q) ∨ rNeDA x y H Q) := OpR.or (op_neX hK (by have := hr.un; omega)) (op_ne_dictA (by have := hr.un; omega))
/-- xs * k -/
def gMulL : GR2 := fun x y n q => match x, y with
  | .lst xs, .int k => 0 ≤ k ∧ k ≤ 100000 ∧ xs.length * k.toNat ≤ 100000 ∧ q (.lst (List.replicate k.toNat xs).flatten) n
  | x, y => gMul x y n q
theorem IsL.rep {vs : List V} {ds : List D} (h : IsL M G vs ds) : ∀ k, IsL M G (List.replicate k vs).flatten (List.replicate k ds).flatten
  | 0 => by simp only [List.replicate, List.flatten_nil, IsL]
  | k + 1 => by
    simp only [List.replicate_succ, List.flatten_cons]
    exact IsL.append h (IsL.rep h k)
theorem dr_mulL : DR2 M (fun x y H Q => rI MulOk (fun i j => .int (i * j)) x y H Q ∨ rRep x y H Q) gMulL := by
  intro pn G n σ δ H v u x y q Q R ix iy h kk
  unfold gMulL at h
  split at h
  · rename_i xs k
    obtain ⟨h1, h2, h3, h⟩ := h
    simp only [Is] at ix iy
    obtain ⟨p, vs, rfl, g1, g2⟩ := ix
    subst iy
    refine .inr ⟨p, k, vs, rfl, rfl, R.ex _ _ g1, by omega, by omega, by rw [g2.length]; exact le_line h3, fun l hl => ?_⟩
    obtain ⟨R2, A2⟩ := R.lay (o := .lst (List.replicate k.toNat vs).flatten) hl notTbl_lst
    exact kk _ _ _ n _ A2 R2 (by simp only [Is]; exact ⟨l, _, rfl, upd_same, IsL.up A2.ge _ _ (IsL.rep g2 _)⟩) h
  · exact .inl (dr_I (fun _ _ h => h) (fun _ _ _ => by simp only [Is]) pn G n σ δ H v u x y q Q R ix iy h kk)
theorem dp_mulL {a b : Expr} {pos : Pos} {fa fb : DTE} (ha : PE X a (liftE M W fa)) (hb : PE X b (liftE M W fb)) : PE X (.BinOp a .Mult b pos) (liftE M W (dOp gMulL fa fb)) := dp_op (OpR.or op_mulX op_rep) dr_mulL ha hb
/-- len, perhaps of the script -/
def gLenS (cs : List Int) : GC := fun xs n q => match xs with
  | [.scr] => q (.int (cs.length : Nat)) n
  | xs => gLen xs n q
theorem drc_lenS (hK : X.K = M.L.K) : DRC M (fun xs H Q => ∃ x n, xs = [x] ∧ LenV X.K x H n ∧ Q (.int (n : Nat)) H) (gLenS M.cs) := by
  intro pn G n σ δ H vs xs q Q R iv h k
  unfold gLenS at h
  split at h
  · obtain ⟨v, rfl, iw⟩ := iv.one
    simp only [Is] at iw
    obtain ⟨p, rfl, h1⟩ := iw
    exact ⟨_, M.cs.length, rfl, .inl ⟨_, by rw [hK]; exact R.ex.seqL h1, by rw [List.length_map]⟩, k G _ _ n H Adv.refl R (by simp only [Is]) h⟩
  · exact drc_len hK pn G n σ δ H vs xs q Q R iv h k
end
end DL

set_option Elab.async false
set_option linter.all false
set_option maxRecDepth 100000
set_option maxHeartbeats 4000000
set_option autoImplicit false
/-! Number operators of own classes. -/
namespace OD
open PySem PySem.Spec PyProof.Rows L2 PySem.W
/-- what a class must have for the operator nm -/
structure OpC (K : Frag) (C f r : Addr) (nm : String) : Prop where
  first : selfFirst K C = true
  l : findIn K (.ref C) (PySem.dunder nm) = some (some (.ref f))
  lf : isFn K (.ref f) = true
  rr : findIn K (.ref C) (PySem.dunderR nm) = some (some (.ref r))
  rf : isFn K (.ref r) = true
/-- what stands on the other side -/
inductive SideT (K : Frag) (C : Addr) (nm : String) : Value → Prop
  | own : SideT K C nm (.ref C)
  | base (T : String) (fo ro : Option Value) (h1 : fastLookup T (PySem.dunder nm) = some fo) (h2 : fastLookup T (PySem.dunderR nm) = some ro) (h3 : subIn K (.type T) (.ref C) = some false) : SideT K C nm (.type T)
section
variable {prog : Program} {w : World} {A : Around} {E : Value → Shared → Prop} {s : Shared} {K : Frag} {C f r a : Addr} {ox : Obj} {od : Option Obj} {b tb : Value} {op : Operator} {Q : Value → Shared → Prop}
theorem op_left (X : K.In s.heap) (c : OpC K C f r op.info.2) (I : InstAt s.heap a ox C od) (Lb : Looks (model prog w) s.heap (typeOf b) tb) (ht : SideT K C op.info.2 tb)
    (h : wpAny (model prog w) A (call (.ref f) [.ref a, b]) (PySem.W.CmpBack Q) E s) : wpAny (model prog w) A (binaryOp op (.ref a) b) Q E s := by
  obtain ⟨cd, rest, hcd, hm⟩ := ksp_first c.first
  obtain ⟨c1, hs, hf, hr, _⟩ := c
  rcases hi : op.info with ⟨sym, nm'⟩
  rw [hi] at hs hr ht
  dsimp only at hs hr ht
  have go := ksp_try X I hs hf h
  obtain ⟨hh, g, d, tt, os⟩ := s
  have T1 : Looks (model prog w) hh (typeOf (.ref a)) (.ref C) := I.type
  have T2 : Looks (model prog w) hh (typeOf b) tb := Lb
  have F1 : Looks (model prog w) hh (fillsNumberSlot (.ref C) nm') true := fills_K X hcd hm hs
  simp only [binaryOp, hi]
  refine wpAny_holding (wpAny_bind ?_)
  unfold binaryOp1
  refine wpAny_bind (T1.at (wpAny_bind (T2.at (wpAny_bind (F1.at ?_)))))
  cases ht with
  | own =>
    have eq1 : (Value.ref C == Value.ref C) = true := by simp
    simp only [eq1, if_true]
    ksp_lk
    refine wpAny_mono go (fun r s' hr' => ?_) fun _ _ e => e
    obtain ⟨v, rfl, hq⟩ := hr'
    ksp_lk
    exact hq
  | base T fo ro h1 h2 h3 =>
    have F2 : Looks (model prog w) hh (fillsNumberSlot (.type T) nm') ((fo.isSome && !isSeqSlot fo) || (ro.isSome && !isSeqSlot ro)) := ksp_fillsT X h1 h2
    have S2 : Looks (model prog w) hh (isSubtype (.type T) (.ref C)) false := looks_subIn X h3
    have P1 : Looks (model prog w) hh (numberSlotInPython (.ref C) nm') true := ksp_inPy X hs hr (.inr ⟨_, rfl⟩)
    have P2 : Looks (model prog w) hh (numberSlotInPython (.type T) nm') false := Looks.of_pure rfl
    have R2 : Looks (model prog w) hh (typeLookup (.type T) (dunderR nm')) ro := looks_findIn X h2
    generalize ((fo.isSome && !isSeqSlot fo) || (ro.isSome && !isSeqSlot ro)) = fills at F2
    have ne1 : (Value.ref C == Value.type T) = false := by simp
    simp only [ne1, Bool.false_eq_true, if_false]
    cases fills <;>
    · ksp_lk
      refine wpAny_mono go (fun r s' hr' => ?_) fun _ _ e => e
      obtain ⟨v, rfl, hq⟩ := hr'
      ksp_lk
      exact hq
/-- the left side does not know what to do -/
def Dunno (prog : Program) (w : World) (A : Around) (E : Value → Shared → Prop) (s : Shared) (a b : Value) (nm : String) : Prop :=
  ∀ R : Option Value → Shared → Prop, R none s → wpAny (model prog w) A (tryMethod a (PySem.dunder nm) b) R E s
theorem op_right {T : String} {fo ro : Option Value} {x : Value} (X : K.In s.heap) (c : OpC K C f r op.info.2) (I : InstAt s.heap a ox C od) (hx : typeOf x = pure (.type T)) (h1 : fastLookup T (PySem.dunder op.info.2) = some fo) (h2 : fastLookup T (PySem.dunderR op.info.2) = some ro)
    (h3 : subIn K (.ref C) (.type T) = some false) (hd : ((fo.isSome && !isSeqSlot fo) || (ro.isSome && !isSeqSlot ro)) = true → Dunno prog w A E s x (.ref a) op.info.2) (h : wpAny (model prog w) A (call (.ref r) [.ref a, x]) (PySem.W.CmpBack Q) E s) : wpAny (model prog w) A (binaryOp op x (.ref a)) Q E s := by
  obtain ⟨cd, rest, hcd, hm⟩ := ksp_first c.first
  obtain ⟨c1, hs, hf, hr, rf⟩ := c
  rcases hi : op.info with ⟨sym, nm'⟩
  rw [hi] at hs hr h1 h2 hd
  dsimp only at hs hr h1 h2 hd
  have go := ksp_try X I hr rf h
  obtain ⟨hh, g, d, tt, os⟩ := s
  have T1 : Looks (model prog w) hh (typeOf (.ref a)) (.ref C) := I.type
  have T2 : Looks (model prog w) hh (typeOf x) (.type T) := Looks.of_pure hx
  have F1 : Looks (model prog w) hh (fillsNumberSlot (.ref C) nm') true := fills_K X hcd hm hs
  have F2 : Looks (model prog w) hh (fillsNumberSlot (.type T) nm') ((fo.isSome && !isSeqSlot fo) || (ro.isSome && !isSeqSlot ro)) := ksp_fillsT X h1 h2
  have S2 : Looks (model prog w) hh (isSubtype (.ref C) (.type T)) false := looks_subIn X h3
  have P2 : Looks (model prog w) hh (numberSlotInPython (.type T) nm') false := Looks.of_pure rfl
  have ne1 : (Value.type T == Value.ref C) = false := by simp
  generalize ((fo.isSome && !isSeqSlot fo) || (ro.isSome && !isSeqSlot ro)) = fills at F2 hd
  simp only [binaryOp, hi]
  refine wpAny_holding (wpAny_bind ?_)
  unfold binaryOp1
  refine wpAny_bind (T2.at (wpAny_bind (T1.at (wpAny_bind (F2.at ?_)))))
  simp only [ne1, Bool.false_eq_true, if_false]
  cases fills with
  | false =>
    ksp_lk
    refine wpAny_mono go (fun r s' hr' => ?_) fun _ _ e => e
    obtain ⟨v, rfl, hq⟩ := hr'
    ksp_lk
    exact hq
  | true =>
    ksp_lk
    refine hd rfl _ ?_
    ksp_lk
    refine wpAny_mono go (fun r s' hr' => ?_) fun _ _ e => e
    obtain ⟨v, rfl, hq⟩ := hr'
    ksp_lk
    exact hq
end
end OD

set_option Elab.async false
set_option linter.all false
set_option maxRecDepth 100000
set_option maxHeartbeats 4000000
set_option autoImplicit false
/-! ints and truths beside own instances. -/
namespace OD
open PySem PySem.Spec PyProof.Rows L2 PySem.W
section
variable {prog : Program} {w : World} {A : Around} {E : Value → Shared → Prop} {s : Shared} {C dx a : Addr} {Q : Value → Shared → Prop}
theorem dunno {T id nm : String} {B : Builtin} {x b : Value} (slot : Slot T (PySem.dunder nm) id) (hx : typeOf x = pure (.type T)) (hT : s.TypeIs x T) (entry : entryFor table id = some B) (args : argsOk id ⟨[x, b], []⟩)
    (hB : ∀ R : Result → Shared → Prop, R (.ok (.ret .notImplemented)) s → wpAny (model prog w) A.in1 (B ⟨[x, b], []⟩) (fun fin s' => match fin with | .done f => R (.ok f) s' | .again c' => c'.quiet = true ∧ codeAny (model prog w) A c' R s') (fun e s' => R (.error e) s') s) : Dunno prog w A E s x b nm := by
  intro R hR
  unfold tryMethod callSpecial? specialOf
  rw [hx]
  refine wpAny_bind (wpAny_bind ?_)
  show wpAny _ _ (typeLookup (.type T) (PySem.dunder nm)) _ _ _
  rw [slot.lookup]
  refine wpAny_pure (wpAny_holding (wpAny_bind ?_))
  rw [slot.bind x]
  refine wpAny_pure (wpAny_bind ?_)
  refine wpAny_call (codeAny_call_builtin slot.plain entry (slot.check _ _ _ _ _ _ _ _ hT args (hB (fun r s' => match r with | .ok (.ret v) => wpAny (model prog w) A (pure (some v)) (fun a s'' => wpAny (model prog w) A (match a with | some .notImplemented | none => pure none | some v => pure (some v)) R E s'') E s' | .ok _ => False | .error e => E e s') ?_)))
  exact wpAny_pure (wpAny_pure hR)
theorem asInt_ins {h : Heap} {g : Array GenState} {d : Drawn} {t : Nat} {os : OsState} {A : Around} {E : Value → Shared → Prop} {R : Option Int → Shared → Prop} (ha : h.get? a = some (instObj C dx)) (q : R none ⟨h, g, d, t, os⟩) : wpAny (model prog w) A (asInt? (.ref a)) R E ⟨h, g, d, t, os⟩ := by
  unfold asInt?
  refine wpAny_bind (wpAny_load ha ?_)
  exact wpAny_pure q
theorem not_int {A' : Around} {nm : String} {g : Int → Int → Sem PySem.Fin} {x : Value} {i : Int} (hx : Builtin.Int.intOfSelf x = pure i) (ha : s.heap.get? a = some (instObj C dx)) (R : Result → Shared → Prop) (hR : R (.ok (.ret .notImplemented)) s) :
    wpAny (model prog w) A' (Builtin.Int.intBinary nm g false ⟨[x, .ref a], []⟩) (fun fin s' => match fin with | .done f => R (.ok f) s' | .again c' => c'.quiet = true ∧ codeAny (model prog w) A c' R s') (fun e s' => R (.error e) s') s := by
  unfold Builtin.Int.intBinary
  have e1 : slotArgs nm 1 ⟨[x, .ref a], []⟩ = pure (x, [.ref a]) := rfl
  rw [e1]
  refine wpAny_bind (wpAny_pure (wpAny_bind ?_))
  rw [hx]
  refine wpAny_pure (wpAny_bind ?_)
  obtain ⟨hh, g, d, tt, os⟩ := s
  refine asInt_ins ha ?_
  wp_walk
  exact hR
end
end OD

set_option Elab.async false
set_option linter.all false
set_option maxRecDepth 100000
set_option maxHeartbeats 4000000
set_option autoImplicit false
/-! Number operators of own classes in the reading. -/
namespace OD
open PySem PySem.Spec PyProof.Rows L2
/-- the kinds of values beside an own instance -/
def KINDS : List String := ["NoneType", "bool", "int", "str", "list", "tuple", "dict"]
def NMS : List String := ["add", "sub", "mul"]
theorem some_slot : ∀ T ∈ KINDS, ∀ nm ∈ NMS, (fastLookup T (PySem.dunder nm)).isSome = true ∧ (fastLookup T (PySem.dunderR nm)).isSome = true := by decide +kernel
theorem mro_kind : ∀ T ∈ KINDS, ∃ l : List String, fastBuiltinMro T = some (l.map Value.type) := by
  intro T h
  simp only [KINDS, List.mem_cons, List.not_mem_nil, or_false] at h
  rcases h with rfl | rfl | rfl | rfl | rfl | rfl | rfl
  · exact ⟨["NoneType", "object"], by decide +kernel⟩
  · exact ⟨["bool", "int", "object"], by decide +kernel⟩
  · exact ⟨["int", "object"], by decide +kernel⟩
  · exact ⟨["str", "object"], by decide +kernel⟩
  · exact ⟨["list", "object"], by decide +kernel⟩
  · exact ⟨["tuple", "object"], by decide +kernel⟩
  · exact ⟨["dict", "object"], by decide +kernel⟩
theorem not_sub {K : PySem.W.Frag} {C : Addr} {T : String} (h : T ∈ KINDS) : PySem.W.subIn K (.type T) (.ref C) = some false := by
  obtain ⟨l, e⟩ := mro_kind T h
  have e0 : PySem.W.subIn K (.type T) (.ref C) = (fastBuiltinMro T).map (·.contains (.ref C)) := rfl
  rw [e0, e, Option.map_some]
  congr 1
  clear e e0
  induction l with
  | nil => rfl
  | cons x l ih =>
    rw [List.map_cons, List.contains_cons, ih]
    simp
theorem side_of {K : PySem.W.Frag} {C : Addr} {T nm : String} (h : T ∈ KINDS) (hn : nm ∈ NMS) : SideT K C nm (.type T) := by
  obtain ⟨h1, h2⟩ := some_slot T h nm hn
  obtain ⟨fo, e1⟩ := Option.isSome_iff_exists.mp h1
  obtain ⟨ro, e2⟩ := Option.isSome_iff_exists.mp h2
  exact .base T fo ro e1 e2 (not_sub h)
section
variable {X : Cx} {k : Nat} {f r C a dx : Addr} {fd : FuncData} {ps : List Str} {sp : Sp} {E : XK} {pins : List (Addr × Obj)} {σ : L2.St} {H : Hp} {s : Shared} {Q : VK} {y : V} {v tb : Value} {fs : List (Str × V)} {op : Operator}
theorem cmpBack_ep {u : Value} {s' : Shared} (h : EP X pins σ Q u s') : PySem.W.CmpBack (EP X pins σ Q) u s' := by
  obtain ⟨w, H', I', r, q⟩ := h
  cases u <;> first | exact ⟨w, H', I', r, q⟩ | skip
  cases w <;> simp [L2.RelV] at r
theorem ep_left (c : OpC X.K C f r op.info.2) (F : FnOk X.prog X.w X.K X.mg X.base (L2.CX X.prog X.w) k f fd ps sp) (hr : Room k X.A) (b : Binds X.K fd ps []) (hx : PassesAt (L2.CX X.prog X.w) X σ E) (I : Inv X pins σ H s) (ha : H a = some (.ins C dx fs)) (ry : RelV y v)
    (hs : (∃ T, T ∈ KINDS ∧ TyX X.K H y (.type T)) ∨ ∃ a' dx' fs', y = .ref a' ∧ H a' = some (.ins C dx' fs')) (hn : op.info.2 ∈ NMS) (h : sp [.ref a, y] H Q E) : wpAny (model X.prog X.w) X.A (binaryOp op (.ref a) v) (EP X pins σ Q) X.xe s := by
  obtain ⟨mA, J, _⟩ := ins_get I.hok ha
  obtain ⟨od, J, _⟩ := J.look
  have cal := wpAny_mono (OB.below F b hr rfl hx I (us := [.ref a, v]) (vs := [.ref a, y]) (.cons rfl (.cons ry .nil)) h) (fun w s' q => cmpBack_ep q) fun _ _ z => z
  rcases hs with ⟨T, hT, ty⟩ | ⟨a', dx', fs', rfl, ha'⟩
  · obtain ⟨P, Z, hP, _⟩ := kit_of I ry ty
    exact op_left I.kIn c J (Z.ty _ _ I.kIn hP) (side_of hT hn) cal
  · obtain rfl : v = Value.ref a' := ry
    obtain ⟨mA', J', _⟩ := ins_get I.hok ha'
    obtain ⟨od', J', _⟩ := J'.look
    exact op_left I.kIn c J J'.type .own cal
theorem obj_ins (I : Inv X pins σ H s) (ha : H a = some (.ins C dx fs)) : s.heap.get? a = some (PySem.W.instObj C dx) := by
  obtain ⟨_, _, _, e, _⟩ := (show ObjOk X.prog X.w H s.heap a (.ins C dx fs) from I.hok a _ ha)
  exact e
/-- a value ahead of an own instance -/
inductive Fore : V → String → Prop
  | int (i : Int) : Fore (.int i) "int"
  | bl (b : Bool) : Fore (.bl b) "bool"
  | str (t : Str) : Fore (.str t) "str"
  | non : Fore .non "NoneType"
theorem seq_str : ∀ nm ∈ NMS, ∀ fo ro, fastLookup "str" (PySem.dunder nm) = some fo → fastLookup "str" (PySem.dunderR nm) = some ro → ((fo.isSome && !isSeqSlot fo) || (ro.isSome && !isSeqSlot ro)) = false := by
  intro nm hn fo ro e1 e2
  have h : ∀ nm ∈ NMS, (match fastLookup "str" (PySem.dunder nm), fastLookup "str" (PySem.dunderR nm) with | some fo, some ro => !((fo.isSome && !isSeqSlot fo) || (ro.isSome && !isSeqSlot ro)) | _, _ => false) = true := by decide +kernel
  have := h nm hn
  rw [e1, e2] at this
  simpa only [Bool.not_eq_true'] using this
theorem seq_non : ∀ nm ∈ NMS, ∀ fo ro, fastLookup "NoneType" (PySem.dunder nm) = some fo → fastLookup "NoneType" (PySem.dunderR nm) = some ro → ((fo.isSome && !isSeqSlot fo) || (ro.isSome && !isSeqSlot ro)) = false := by
  intro nm hn fo ro e1 e2
  have h : ∀ nm ∈ NMS, (match fastLookup "NoneType" (PySem.dunder nm), fastLookup "NoneType" (PySem.dunderR nm) with | some fo, some ro => !((fo.isSome && !isSeqSlot fo) || (ro.isSome && !isSeqSlot ro)) | _, _ => false) = true := by decide +kernel
  have := h nm hn
  rw [e1, e2] at this
  simpa only [Bool.not_eq_true'] using this
theorem dunno_i {E : Value → Shared → Prop} {A : Around} {i : Int} {t : Tok} (ha : s.heap.get? a = some (PySem.W.instObj C dx)) : ∀ nm ∈ NMS, Dunno X.prog X.w A E s (.int i t) (.ref a) nm := by
  intro nm hn
  simp only [NMS, List.mem_cons, List.not_mem_nil, or_false] at hn
  rcases hn with rfl | rfl | rfl
  · exact @dunno X.prog X.w A E s "int" "int.__add__" "add" Builtin.«int.__add__» (.int i t) (.ref a) F.slot_int_add rfl (typeIs_int s i t) F.entry_int_add (F.args_int_add_2 _ _) (by unfold Builtin.«int.__add__»; exact fun R hR => not_int (i := _) rfl ha R hR)
  · exact @dunno X.prog X.w A E s "int" "int.__sub__" "sub" Builtin.«int.__sub__» (.int i t) (.ref a) F.slot_int_sub rfl (typeIs_int s i t) F.entry_int_sub (F.args_int_sub_2 _ _) (by unfold Builtin.«int.__sub__»; exact fun R hR => not_int (i := _) rfl ha R hR)
  · exact @dunno X.prog X.w A E s "int" "int.__mul__" "mul" Builtin.«int.__mul__» (.int i t) (.ref a) F.slot_int_mul rfl (typeIs_int s i t) F.entry_int_mul (F.args_int_mul_2 _ _) (by unfold Builtin.«int.__mul__»; exact fun R hR => not_int (i := _) rfl ha R hR)
theorem dunno_b {E : Value → Shared → Prop} {A : Around} {i : Bool} (ha : s.heap.get? a = some (PySem.W.instObj C dx)) : ∀ nm ∈ NMS, Dunno X.prog X.w A E s (.bool i) (.ref a) nm := by
  intro nm hn
  simp only [NMS, List.mem_cons, List.not_mem_nil, or_false] at hn
  rcases hn with rfl | rfl | rfl
  · exact @dunno X.prog X.w A E s "bool" "int.__add__" "add" Builtin.«int.__add__» (.bool i) (.ref a) F.slot_bool_add rfl rfl F.entry_int_add (F.args_int_add_2 _ _) (by unfold Builtin.«int.__add__»; exact fun R hR => not_int (i := _) rfl ha R hR)
  · exact @dunno X.prog X.w A E s "bool" "int.__sub__" "sub" Builtin.«int.__sub__» (.bool i) (.ref a) F.slot_bool_sub rfl rfl F.entry_int_sub (F.args_int_sub_2 _ _) (by unfold Builtin.«int.__sub__»; exact fun R hR => not_int (i := _) rfl ha R hR)
  · exact @dunno X.prog X.w A E s "bool" "int.__mul__" "mul" Builtin.«int.__mul__» (.bool i) (.ref a) F.slot_bool_mul rfl rfl F.entry_int_mul (F.args_int_mul_2 _ _) (by unfold Builtin.«int.__mul__»; exact fun R hR => not_int (i := _) rfl ha R hR)
theorem ep_right {x : V} {u : Value} {T : String} (c : OpC X.K C f r op.info.2) (F : FnOk X.prog X.w X.K X.mg X.base (L2.CX X.prog X.w) k r fd ps sp) (hr : Room k X.A) (b : Binds X.K fd ps []) (hx : PassesAt (L2.CX X.prog X.w) X σ E) (I : Inv X pins σ H s) (ha : H a = some (.ins C dx fs)) (rx : RelV x u)
    (hf : Fore x T) (hns : PySem.W.subIn X.K (.ref C) (.type T) = some false) (hn : op.info.2 ∈ NMS) (h : sp [.ref a, x] H Q E) : wpAny (model X.prog X.w) X.A (binaryOp op u (.ref a)) (EP X pins σ Q) X.xe s := by
  obtain ⟨mA, J, _⟩ := ins_get I.hok ha
  obtain ⟨od, J, _⟩ := J.look
  have cal := wpAny_mono (OB.below F b hr rfl hx I (us := [.ref a, u]) (vs := [.ref a, x]) (.cons rfl (.cons rx .nil)) h) (fun w s' q => cmpBack_ep q) fun _ _ z => z
  have hT : T ∈ KINDS := by cases hf <;> simp [KINDS]
  obtain ⟨h1, h2⟩ := some_slot T hT _ hn
  obtain ⟨fo, e1⟩ := Option.isSome_iff_exists.mp h1
  obtain ⟨ro, e2⟩ := Option.isSome_iff_exists.mp h2
  have hobj := obj_ins I ha
  cases hf with
  | int i =>
    obtain ⟨t, rfl⟩ := (show ∃ t, u = Value.int i t from rx)
    exact op_right I.kIn c J rfl e1 e2 hns (fun _ => dunno_i hobj _ hn) cal
  | bl i =>
    cases (show u = Value.bool i from rx)
    exact op_right I.kIn c J rfl e1 e2 hns (fun _ => dunno_b hobj _ hn) cal
  | str z =>
    obtain ⟨t, rfl⟩ := (show ∃ t, u = Value.str z t from rx)
    exact op_right I.kIn c J rfl e1 e2 hns (fun z => absurd (seq_str _ hn fo ro e1 e2) (by rw [z]; simp)) cal
  | non =>
    cases (show u = Value.none from rx)
    exact op_right I.kIn c J rfl e1 e2 hns (fun z => absurd (seq_non _ hn fo ro e1 e2) (by rw [z]; simp)) cal
end
end OD

set_option Elab.async false
set_option linter.all false
set_option maxRecDepth 100000
set_option maxHeartbeats 4000000
set_option autoImplicit false
/-! Number operators of own classes over trees. -/
namespace OD
open PySem PySem.Spec PyProof.Rows L2
section
variable {X : Cx} {kL kR : Nat} {f r C : Addr} {fd fr : FuncData} {ps pr : List Str} {spL spR : Sp} {E : L2.St → XK} {op : Operator} {a b : Expr} {pos : Pos} {ta tb : TE} {r0 : R2}
def rNum (K : PySem.W.Frag) (C : Addr) (spL spR : Sp) (E : XK) (r0 : R2) : R2 := fun x y H Q =>
  (∃ (a dx : Addr) (fs : List (Str × V)), x = .ref a ∧ H a = some (.ins C dx fs) ∧ ((∃ T, T ∈ KINDS ∧ TyX K H y (.type T)) ∨ ∃ (a' dx' : Addr) (fs' : List (Str × V)), y = .ref a' ∧ H a' = some (.ins C dx' fs')) ∧ spL [x, y] H Q E) ∨
  (∃ (a dx : Addr) (fs : List (Str × V)) (T : String), y = .ref a ∧ H a = some (.ins C dx fs) ∧ Fore x T ∧ spR [y, x] H Q E) ∨ r0 x y H Q
theorem pe_num (c : OpC X.K C f r op.info.2) (FL : FnOk X.prog X.w X.K X.mg X.base (L2.CX X.prog X.w) kL f fd ps spL) (bL : Binds X.K fd ps []) (FR : FnOk X.prog X.w X.K X.mg X.base (L2.CX X.prog X.w) kR r fr pr spR) (bR : Binds X.K fr pr []) (hL : Room kL X.A) (hR : Room kR X.A)
    (hx : ∀ σ, PassesAt (L2.CX X.prog X.w) X σ (E σ)) (hns : ∀ (x : V) (T : String), Fore x T → PySem.W.subIn X.K (.ref C) (.type T) = some false) (hn : op.info.2 ∈ NMS) (ho : OpR X (binaryOp op) r0) (ha : PE X a ta) (hb : PE X b tb) :
    PE X (.BinOp a op b pos) (fun σ H Q => tOp (rNum X.K C spL spR (E σ) r0) ta tb σ H Q) := by
  refine ⟨fun pins s σ H Q I h => ?_⟩
  refine wpAny_BinOp (binT ha hb I h fun v u s2 x y H2 I2 rx ry q => ?_)
  rcases q with ⟨p, dx, fs, rfl, hp, hs, q⟩ | ⟨p, dx, fs, T, rfl, hp, hf, q⟩ | q
  · obtain rfl : v = Value.ref p := rx
    exact ep_left c FL hL bL (hx σ) I2 hp ry hs hn q
  · obtain rfl : u = Value.ref p := ry
    exact ep_right c FR hR bR (hx σ) I2 hp rx hf (hns _ _ hf) hn q
  · exact ho pins s2 σ H2 x y v u Q I2 rx ry q
/-- -x by an own def -/
structure NegC (K : PySem.W.Frag) (C f : Addr) : Prop where
  l : PySem.W.findIn K (.ref C) "__neg__" = some (some (.ref f))
  lf : PySem.W.isFn K (.ref f) = true
theorem pe_negO (c : NegC X.K C f) (F : FnOk X.prog X.w X.K X.mg X.base (L2.CX X.prog X.w) kL f fd ps spL) (b : Binds X.K fd ps []) (hL : Room kL X.A) (hx : ∀ σ, PassesAt (L2.CX X.prog X.w) X σ (E σ)) (ha : PE X a ta) :
    PE X (.UnaryOp .USub a pos) (fun σ H Q => ta σ H fun x H1 => ∃ (p dx : Addr) (fs : List (Str × V)), x = .ref p ∧ H1 p = some (.ins C dx fs) ∧ spL [x] H1 Q (E σ)) := by
  refine ⟨fun pins s σ H Q I h => ?_⟩
  refine UnaryOp_ (thn (ha.run pins s σ H _ I h) fun v s1 ⟨x, H1, I1, r1, p, dx, fs, ex, hp, q⟩ => ?_)
  subst ex
  obtain rfl : v = Value.ref p := r1
  obtain ⟨mA, J, _⟩ := ins_get I1.hok hp
  obtain ⟨od, J, _⟩ := J.look
  unfold unaryOp
  refine wpAny_holding (wpAny_bind (PySem.W.special_fn I1.kIn J c.l (beq_iff_eq.mp c.lf) ?_))
  exact wpAny_mono (OB.below F b hL rfl (hx σ) I1 (us := [.ref p]) (vs := [.ref p]) (.cons rfl .nil) q) (fun w s' z => wpAny_pure z) fun _ _ z => z
end
end OD
namespace DL
open PySem PySem.Spec PyProof.Rows L2
/-- the operator op of the class C: both defs hold their promises -/
structure NumD (P : Program) (w : World) (K : PySem.W.Frag) (mg : Str → Option Value) (base : Heap) (M : LK) (k : Nat) (C : Addr) (op : Operator) (sL sR : DSp) : Prop where
  ex : ∃ f r fd fr ps pr, OD.OpC K C f r op.info.2 ∧ FnOk P w K mg base (L2.CX P w) k f fd ps (lift M 2 sL) ∧ Binds K fd ps [] ∧ FnOk P w K mg base (L2.CX P w) k r fr pr (lift M 2 sR) ∧ Binds K fr pr []
  ns : ∀ T ∈ ["int", "bool", "str", "NoneType"], PySem.W.subIn K (.ref C) (.type T) = some false
structure NegD (P : Program) (w : World) (K : PySem.W.Frag) (mg : Str → Option Value) (base : Heap) (M : LK) (k : Nat) (C : Addr) (s : DSp) : Prop where
  ex : ∃ f fd ps, OD.NegC K C f ∧ FnOk P w K mg base (L2.CX P w) k f fd ps (lift M 1 s) ∧ Binds K fd ps []
def foreD : D → Bool | .int _ | .bl _ | .str _ | .non => true | _ => false
def gNum (C : Addr) (sL sR : DSp) (g : GR2) : D → D → NS → (D → NS → Prop) → DY → Prop := fun x y n q e => match x with
  | .ins C' ns xs => C' = C ∧ ((kindD y).isSome = true ∨ ∃ ns' ys, y = .ins C ns' ys) ∧ sL [.ins C' ns xs, y] n q e
  | x => match y with
    | .ins C' ns ys => C' = C ∧ foreD x = true ∧ sR [.ins C' ns ys, x] n q e
    | y => g x y n q
def dNum (C : Addr) (sL sR : DSp) (g : GR2) (fa fb : DTE) : DTE := fun δ n q e => fa δ n (fun x n1 => fb δ n1 (fun y n2 => gNum C sL sR g x y n2 q (e δ)) e) e
def dNegO (C : Addr) (s : DSp) (fa : DTE) : DTE := fun δ n q e => fa δ n (fun x n1 => match x with | .ins C' ns xs => C' = C ∧ s [.ins C' ns xs] n1 q (e δ) | _ => False) e
theorem kind_in {y : D} {T : String} (h : kindD y = some T) : T ∈ OD.KINDS := by
  cases y <;> simp only [kindD, Option.some.injEq, reduceCtorEq] at h <;> subst h <;> simp [OD.KINDS]
theorem fore_is {M : LK} {G : Hp} {v : V} {x : D} (h : foreD x = true) (i : Is M G v x) : ∃ T, OD.Fore v T := by
  cases x <;> simp only [foreD, Bool.false_eq_true] at h <;> simp only [Is] at i <;> subst i
  · exact ⟨_, .non⟩
  · exact ⟨_, .bl _⟩
  · exact ⟨_, .int _⟩
  · exact ⟨_, .str _⟩
section
variable {X : Cx} {M : LK} {W : WX} {k j : Nat} {C : Addr} {op : Operator} {sL sR : DSp} {a b : Expr} {pos : Pos} {fa fb : DTE} {r0 : R2} {g : GR2}
theorem dp_num (c : NumD X.prog X.w X.K X.mg X.base M k C op sL sR) (hK : X.K = M.L.K) (hr : Room j X.A) (hkj : k ≤ j) (tk : Takes X W) (hn : op.info.2 ∈ OD.NMS) (ho : OpR X (binaryOp op) r0) (hg : DR2 M r0 g) (ha : PE X a (liftE M W fa)) (hb : PE X b (liftE M W fb)) :
    PE X (.BinOp a op b pos) (liftE M W (dNum C sL sR g fa fb)) := by
  obtain ⟨⟨f, r, fd, fr, ps, pr, o, FL, bL, FR, bR⟩, ns⟩ := c
  refine PEw (OD.pe_num o FL bL FR bR (hr.mono hkj) (hr.mono hkj) (fun σ => passAt tk σ) (fun x T hf => ns T (by cases hf <;> simp)) hn ho ha hb) fun σ H Q h => ?_
  obtain ⟨pn, G, n, δ, q, e, R, hf, hQ, hX⟩ := h
  refine ⟨pn, G, n, δ, _, e, R, hf, fun G1 v x n1 H1 A1 R1 i1 h1 => ?_, hX⟩
  refine ⟨pn, G1, n1, δ, _, e, R1, h1, fun G2 u y n2 H2 A2 R2 i2 h2 => ?_, hX.on R A1⟩
  have i1 := Is.up A2.ge _ _ i1
  have A12 := R.tr A1 A2
  have X2 := hX.on R A12
  have up : ∀ (vs : List V) (ds : List D) (s : DSp), IsL M G2 vs ds → ds.length = 2 → s ds n2 q (e δ) → lift M 2 s vs H2 Q (WE W σ) := fun vs ds s iv hl hs =>
    ⟨pn, G2, n2, ds, q, e δ, R2.bare, iv, hl, hs, fun G3 w d n3 H3 A3 R3 i3 h3 => hQ G3 w d n3 H3 (R.tr A12 A3) (R2.back R3 A3) i3 h3, fun G3 D p ns xs n3 H3 A3 R3 x3 h3 => hX G3 D p ns xs n3 H3 (R.tr A12 A3) (R2.back R3 A3) x3 h3⟩
  have rest : ∀ z z' : D, Is M G2 v z → Is M G2 u z' → g z z' n2 q → r0 v u H2 Q := fun z z' k1 k2 h => hg pn G2 n2 σ δ H2 v u z z' q Q R2 k1 k2 h fun G3 w d n3 H3 A3 R3 i3 h3 => hQ G3 w d n3 H3 (R.tr A12 A3) R3 i3 h3
  unfold gNum at h2
  split at h2
  · rename_i C' ns' xs
    obtain ⟨rfl, hs, h2⟩ := h2
    have i0 := i1
    simp only [Is] at i0
    obtain ⟨p, dx, fs, rfl, g1, _, _⟩ := i0
    refine .inl ⟨p, dx, fs, rfl, R2.ex _ _ g1, ?_, up _ _ sL (by simp only [IsL]; exact ⟨i1, i2, trivial⟩) rfl h2⟩
    rcases hs with hk | ⟨ns2, ys, rfl⟩
    · obtain ⟨T, hT⟩ := Option.isSome_iff_exists.mp hk
      exact .inl ⟨T, kind_in hT, hK ▸ tyD_ok R2.ex (.inl ⟨T, hT, rfl⟩) i2⟩
    · simp only [Is] at i2
      obtain ⟨p2, dx2, fs2, rfl, g2, _, _⟩ := i2
      exact .inr ⟨p2, dx2, fs2, rfl, R2.ex _ _ g2⟩
  · split at h2
    · rename_i C' ns' ys _
      obtain ⟨rfl, hs, h2⟩ := h2
      obtain ⟨T, hT⟩ := fore_is hs i1
      have i0 := i2
      simp only [Is] at i0
      obtain ⟨p, dx, fs, rfl, g1, _, _⟩ := i0
      exact .inr (.inl ⟨p, dx, fs, T, rfl, R2.ex _ _ g1, hT, up _ _ sR (by simp only [IsL]; exact ⟨i2, i1, trivial⟩) rfl h2⟩)
    · exact .inr (.inr (rest _ _ i1 i2 h2))
theorem dp_negO {s : DSp} (c : NegD X.prog X.w X.K X.mg X.base M k C s) (hr : Room j X.A) (hkj : k ≤ j) (tk : Takes X W) (ha : PE X a (liftE M W fa)) : PE X (.UnaryOp .USub a pos) (liftE M W (dNegO C s fa)) := by
  obtain ⟨f, fd, ps, o, F, b⟩ := c.ex
  refine PEw (OD.pe_negO o F b (hr.mono hkj) (fun σ => passAt tk σ) ha) fun σ H Q h => ?_
  obtain ⟨pn, G, n, δ, q, e, R, hf, hQ, hX⟩ := h
  refine ⟨pn, G, n, δ, _, e, R, hf, fun G1 v x n1 H1 A1 R1 i1 h1 => ?_, hX⟩
  cases x with
  | ins C' ns xs =>
    obtain ⟨rfl, h1⟩ := h1
    have i0 := i1
    simp only [Is] at i0
    obtain ⟨p, dx, fs, rfl, g1, _, _⟩ := i0
    exact ⟨p, dx, fs, rfl, R1.ex _ _ g1, pn, G1, n1, _, q, e δ, R1.bare, by simp only [IsL]; exact ⟨i1, trivial⟩, rfl, h1, fun G3 w d n3 H3 A3 R3 i3 h3 => hQ G3 w d n3 H3 (R.tr A1 A3) (R1.back R3 A3) i3 h3, fun G3 D p ns xs n3 H3 A3 R3 x3 h3 => hX G3 D p ns xs n3 H3 (R.tr A1 A3) (R1.back R3 A3) x3 h3⟩
  | _ => exact h1.elim
end
end DL

set_option Elab.async false
set_option linter.all false
set_option maxRecDepth 100000
set_option maxHeartbeats 4000000
set_option autoImplicit false
/-! A comprehension whose items call what the def itself has made: the def's state at the start is handed to the item. -/
namespace LcI
open PySem PySem.Spec PyProof.Rows L2
abbrev Blk (X : Cx) (s0 : Shared) (H0 : Hp) (scope : Scope) (C : Addr) (cl : List (Str × Addr)) (fp : List Addr) : Cx := X.blk s0 H0 scope (compEnvC scope cl C X.env) fp
/-- the item's judgement: the def's state at the start is known, too -/
def Item (X : Cx) (scope : Scope) (vs : List Nat) (elt : Expr) (te : TE) : Prop :=
  ∀ (s0 : Shared) (H0 : Hp) (C : Addr) (cl : List (Str × Addr)) (fp : List Addr) (p0 : List (Addr × Obj)) (σ0 : L2.St), Inv X p0 σ0 H0 s0 →
    (∀ b ∈ fp, FpOk X p0 H0 b ∧ b < s0.heap.objs.size) → ∀ (pins : List (Addr × Obj)) (s : Shared) (σ : L2.St) (H : Hp) (Q : VK),
    Inv (Blk X s0 H0 scope C cl fp) pins σ H s → wipe σ vs = wipe σ0 vs → te σ H Q →
    wpAny (model X.prog X.w) X.A (eval elt (compEnvC scope cl C X.env)) (EP (Blk X s0 H0 scope C cl fp) pins σ Q) (fun _ _ => False) s
section
variable {X : Cx}
theorem Item.of {scope : Scope} {vs : List Nat} {elt : Expr} {te : TE} (h : ∀ s H C cl fp, PE (Blk X s H scope C cl fp) elt te) : Item X scope vs elt te :=
  fun s0 H0 C cl fp p0 σ0 _ _ pins s σ H Q I _ q => (h s0 H0 C cl fp).run pins s σ H Q I q
/-- the def's own state, anywhere within the block -/
theorem back {s0 s : Shared} {H0 H : Hp} {C : Addr} {cl : List (Str × Addr)} {fp : List Addr} {p0 pins : List (Addr × Obj)} {σ0 σ : L2.St} {scope : Scope} (I0 : Inv X p0 σ0 H0 s0)
    (hf : ∀ b ∈ fp, FpOk X p0 H0 b ∧ b < s0.heap.objs.size) (I : Inv (Blk X s0 H0 scope C cl fp) pins σ H s) : Inv X p0 σ0 H s := by
  refine I0.call' (ch := fp) I.os I.base I.hok I.bare ?_
  intro b hb
  obtain ⟨_, f1, _, f3, f4, f5⟩ := (hf b hb).1
  exact ⟨f3, f1, f4, f5⟩
theorem core {p0 : List (Addr × Obj)} {s : Shared} {σ : L2.St} {H : Hp} {Q : VK} {elt tg iter : Expr} {scope : Scope} {own : List (Str × Nat)} {pos p2 : Pos} {wi : TI} {g : TG} {tt : TT} {te : TE} (hc : X.calm = true) (hN : X.N.Nodup) (I : Inv X p0 σ H s) (hi : PI X tg iter wi)
    (ok : BlkOk X.N X.env.scope scope own) (hg : ∀ s H C cl fp, PG (Blk X s H scope C cl fp) tg g) (ht : ∀ s H C cl fp, PTs (Blk X s H scope C cl fp) [] tt) (he : Item X scope (own.map (·.2)) elt te) (hs : ∀ x, foldedSetIterable iter X.env x = pure x)
    (h : tLc wi g tt te (own.map (·.2)) σ H Q) {Qf : Value → Shared → Prop}
    (fin : ∀ D C s' m H', Inv X p0 σ H' s' → Q (.ref D) H' → s'.heap.Ns C m → FpOk X p0 H' C → compPost (model X.prog X.w) X.A X.xe none Qf (.ref D) C (.ok .next) s') :
    wpAny (model X.prog X.w) X.A (comprehension (.ListComp elt [⟨tg, iter, [], 0⟩] scope pos) scope X.env p2 (newList []) false (eval iter X.env) none) Qf X.xe s := by
  have clo : closureFor scope X.env = pure (cloFrom X.env.cells scope.names []) := closure_ok fun y hy e => by
    cases ok.free y hy e with
    | inl k => exact I.ok.has _ (.inl k)
    | inr k => exact I.ok.has _ (.inr k)
  refine wpAny_comprehension_free (use := none) rfl hs clo ok.kind (fun y hy e => (ok.uniq y hy).trans (congrArg some e)) ?_
  refine thn (hi.run p0 s σ H _ I h) fun xv s1 hx => ?_
  refine thn hx fun itv s2 h2 => ?_
  obtain ⟨it, fp, tn, J, H2, rfl, I2, T, st2, f2, q⟩ := h2
  refine wpAny_newObj_type (newEnv_comp ?_) (by show 0 ≤ sizeLine; decide)
  generalize hD : s2.heap.objs.size = D
  obtain ⟨W, ⟨m0, w0⟩, turn⟩ := q D (I2.hok.fresh (Nat.le_of_eq hD))
  let s3 : Shared := { s2 with heap := s2.heap.push { cls := .type "list", data := .seq ([] : List Value).toArray } }
  have kp3 : ∀ b o, s2.heap.get? b = some o → s3.heap.get? b = some o := fun b o e => Heap.get?_push_of_some _ e
  let H3 : Hp := upd H2 D (.lst [])
  have I3 : Inv X p0 σ H3 s3 := by
    refine I2.laid (t' := s2.toks) kp3 (Nat.le_of_eq hD) ?_
    refine ⟨Nat.zero_le _, [], 0, .nil, ?_⟩
    subst hD
    exact Heap.get?_push_size _ rfl
  have f3 : ∀ b ∈ fp, FpOk X p0 H3 b ∧ b < s3.heap.objs.size := by
    intro b hb
    obtain ⟨o, e, _⟩ := T.obj _ _ st2 b hb
    have lt := Heap.lt_size e
    have ne : b ≠ D := fun z => by
      subst hD
      exact Nat.lt_irrefl _ (z ▸ lt)
    refine ⟨⟨?_, (f2 b hb).2⟩, Heap.lt_size (kp3 _ _ e)⟩
    show upd H2 D (.lst []) b = none
    rw [upd_ne ne]
    exact (f2 b hb).1
  have st3 : tn 0 s3.heap := T.keep _ _ _ st2 fun b _ o e => kp3 b o e
  have I4 := block_start I3 ok hN f3
  let C3 : Addr := s3.heap.objs.size
  let cl3 : List (Str × Addr) := cellsFrom (s3.heap.objs.size + 1) scope.names (cloFrom X.env.cells scope.names [])
  let s4 : Shared := { s3 with heap := pushCells (s3.heap.push { cls := .type "dict", data := .dict #[] }) scope.names }
  have I4 : Inv (Blk X s3 H3 scope C3 cl3 fp) [] (wipe σ (own.map (·.2))) H3 s4 := I4
  have kp4 : ∀ b o, s3.heap.get? b = some o → s4.heap.get? b = some o := fun b o e => pushCells_keeps _ _ _ _ (Heap.get?_push_of_some _ e)
  have st4 : tn 0 s4.heap := T.keep _ _ _ st3 fun b _ o e => kp4 b o e
  have nf : ∀ b ∈ fp, H3 b = none := fun b hb => (f3 b hb).1.1
  have pg := hg s3 H3 C3 cl3 fp
  have pt := ht s3 H3 C3 cl3 fp
  have pe := he s3 H3 C3 cl3 fp p0 σ I3 f3
  have still : ∀ {σ' : L2.St} {H' : Hp} {s' : Shared}, Inv (Blk X s3 H3 scope C3 cl3 fp) [] σ' H' s' → (∀ b ∈ fp, H' b = none) → ∀ b ∈ fp, FpOk (Blk X s3 H3 scope C3 cl3 fp) [] H' b := by
    intro σ' H' s' I' hn b hb
    obtain ⟨x1, x2⟩ := I'.ok.exf b hb
    exact ⟨hn b hb, x1, I'.ok.exfs b hb, .inl hb, fun x c e => x2 x c e, fun p hp => nomatch (show p ∈ ([] : List (Addr × Obj)) from hp)⟩
  have loop : codeAny (model X.prog X.w) X.A (.compLoop (.ListComp elt [⟨tg, iter, [], 0⟩] scope pos) 0 (.ref it) (.ref D) (compEnvC scope cl3 C3 X.env)) (compPost (model X.prog X.w) X.A X.xe none Qf (.ref D) C3) s4 := by
    refine compLoop_any (fun n s' => ∃ i H', Inv (Blk X s3 H3 scope C3 cl3 fp) [] (wipe σ (own.map (·.2))) H' s' ∧ tn i s'.heap ∧ (∀ b ∈ fp, H' b = none) ∧ W i n H') ?_ m0 ⟨0, H3, I4, st4, nf, w0⟩
    intro n s5 ⟨i, H5, I5, st5, n5, w5⟩
    cases turn i n H5 w5 with
    | inl z =>
      obtain ⟨stop, qq⟩ := z
      refine thnF (T.done (Blk X s3 H3 scope C3 cl3 fp) rfl rfl rfl hc i [] s5 _ H5 (fun _ _ => False) I5 (still I5 n5) st5 stop) fun r s6 ⟨hr, I6⟩ => ?_
      subst hr
      obtain ⟨m, hn, _⟩ := I6.loc
      have free : H5 C3 = none := I6.free
      exact fin D C3 s6 m H5 (back I3 f3 I6) qq hn (I3.fpOk (Nat.le_refl _) free)
    | inr z =>
      obtain ⟨go, Nx, hNx, step⟩ := z
      refine thnF (T.item (Blk X s3 H3 scope C3 cl3 fp) rfl rfl rfl hc i [] s5 _ H5 (fun _ _ => False) I5 (still I5 n5) st5 go) fun r s6 ⟨u, hr, h6⟩ => ?_
      subst hr
      refine thnF h6 fun _ s7 ⟨x, H7, I7, r7, y7, st7, n7⟩ => ?_
      have J7 := I7.pinned (still I7 n7) (T.obj _ _ st7)
      refine thnF (pg.run _ s7 _ H7 x u _ J7 r7 (step x H7 y7)) fun _ s8 ⟨σ8, H8, I8, hw8, q8⟩ => ?_
      refine thnF (pt.run _ s8 σ8 H8 _ I8 q8) fun b s9 ⟨H9, I9, q9⟩ => ?_
      have len8 : (wipe σ (own.map (·.2))).length = σ8.length := by
        have := congrArg List.length hw8
        rw [wipe_length] at this
        exact this.symm
      have next : ∀ {s' : Shared} {H' : Hp}, Inv (Blk X s3 H3 scope C3 cl3 fp) ([] ++ pinsAt fp s7.heap) σ8 H' s' → Nx H' → ∃ m, m < n ∧ ∃ i H', Inv (Blk X s3 H3 scope C3 cl3 fp) [] (wipe σ (own.map (·.2))) H' s' ∧ tn i s'.heap ∧ (∀ b ∈ fp, H' b = none) ∧ W i m H' := by
        intro s' H' I' nx
        obtain ⟨m', hm, w'⟩ := hNx H' nx
        have here : ∀ b ∈ fp, ∀ o, s7.heap.get? b = some o → s'.heap.get? b = some o ∧ H' b = none := by
          intro b hb o e
          have z := I'.pin (b, o) (List.mem_append_right _ (List.mem_append_right _ (mem_pinsAt hb e)))
          exact ⟨z.1, z.2.1⟩
        have less : Inv (Blk X s3 H3 scope C3 cl3 fp) [] (wipe σ (own.map (·.2))) H' s' := by
          refine (I'.unpinned (pins := [])).weak len8 ?_
          intro j v e
          rw [← hw8] at e
          exact (wipe_some e).1
        refine ⟨m', hm, i + 1, H', less, T.keep _ _ _ st7 fun b hb o e => (here b hb o e).1, ?_, w'⟩
        intro b hb
        obtain ⟨o, e, _⟩ := T.obj _ _ st7 b hb
        exact (here b hb o e).2
      cases b with
      | false =>
        rw [if_neg Bool.false_ne_true] at q9 ⊢
        exact next I9 q9
      | true =>
        rw [if_pos rfl] at q9 ⊢
        have two : wipe σ8 (own.map (·.2)) = wipe σ (own.map (·.2)) := hw8
        refine thnF (pe _ s9 σ8 H9 _ I9 two q9) fun z s10 ⟨yv, H10, I10, r10, acc, hD10, hz10, nx⟩ => ?_
        exact app_ok (X := Blk X s3 H3 scope C3 cl3 fp) I10 hD10 hz10 r10 fun s11 I11 => next I11 nx
  exact codeAny_compStart_list loop (T.self X.A 0 _ _ _ st4 loop)
theorem pe_lcI {elt tg iter : Expr} {scope : Scope} {own : List (Str × Nat)} {pos : Pos} {wi : TI} {g : TG} {tt : TT} {te : TE} (hc : X.calm = true) (hN : X.N.Nodup) (hi : PI X tg iter wi) (ok : BlkOk X.N X.env.scope scope own)
    (hg : ∀ s H C cl fp, PG (Blk X s H scope C cl fp) tg g) (ht : ∀ s H C cl fp, PTs (Blk X s H scope C cl fp) [] tt) (he : Item X scope (own.map (·.2)) elt te) (hs : ∀ x, foldedSetIterable iter X.env x = pure x := by intro _; rfl) :
    PE X (.ListComp elt [⟨tg, iter, [], 0⟩] scope pos) (tLc wi g tt te (own.map (·.2))) := by
  constructor
  intro pins s σ H Q I h
  rw [eval_ListComp]
  refine core hc hN I hi ok hg ht he hs h ?_
  intro D C s' m H' I' q hn f
  refine ⟨m, hn, fun h'' sb => ?_⟩
  have f := f
  obtain ⟨g0, g1, g2, g3, g4, g5⟩ := f
  refine ⟨.ref D, H', ?_, rfl, q⟩
  exact I'.turned (t' := s'.toks) (fun b o hb e => (sb.2 b hb).trans e) g0 g1 g3 g4 g5
end
end LcI

set_option Elab.async false
set_option linter.all false
set_option maxRecDepth 100000
set_option maxHeartbeats 4000000
set_option autoImplicit false
/-! Lambdas without parameters as values. -/
namespace FnV
open PySem PySem.Spec PyProof.Rows L2 DL
theorem funO_ok {P : Program} {w : World} {H : Hp} {h : Heap} {f c : Addr} {r : Src} {fr : List (Str × Addr)} {pm ctv : Value} (e : h.get? f = some (PySem.W.kla_obj "<lambda>" r.q r.ps r.b r.sc (cloFrom fr r.sc.names []) pm c ctv)) : ObjOk P w H h f (FunO f c r fr) :=
  ⟨⟨pm, ctv, e⟩, ⟨_, e⟩, fun _ _ ⟨p, t, q⟩ k => ⟨p, t, k _ q⟩⟩
theorem funO_ne {f c : Addr} {r : Src} {fr : List (Str × Addr)} (ps : Array Value) : FunO f c r fr ≠ .tbl ps := fun z => by
  unfold FunO at z
  cases z
section
variable {X : Cx} {pins : List (Addr × Obj)} {σ : L2.St} {H : Hp} {s : Shared}
/-- a lambda is made: its function object is new and known -/
theorem made {T : List (Addr × Str)} {c P : Addr} {ps : Arguments} {b : Expr} {sc : Scope} {pos : Pos} {E : Value → Shared → Prop} {Q : Value → Shared → Prop} (I : Inv X pins σ H s) (TB : LamX.TabB X.base X.mg c P) (hcode : X.env.code = .ref c) (hm : (P, X.env.qual ++ "<lambda>") ∈ T)
    (hu : ∀ p ∈ T, p.1 = P → p.2 = X.env.qual ++ "<lambda>") (hT : LamX.Tabs T H) (hdef : defaultsOf ps X.env = ([], [])) (L : LamX.LamS X.env.scope sc)
    (h : ∀ (f c' : Addr) (H1 : Hp) (s' : Shared), Inv X pins σ H1 s' → LamX.ExtN H H1 → LamX.Tabs T H1 → H1 f = some (FunO f c' ⟨X.env.qual ++ "<lambda>", ps, b, sc⟩ X.env.cells) → H1 c' = some (LamX.CodeO c' (X.env.qual ++ "<lambda>")) → Q (.ref f) s') :
    wpAny (model X.prog X.w) X.A (eval (.Lambda ps b sc pos) X.env) Q E s := by
  have clo := closure_ok (L.has I.ok)
  obtain ⟨tb, hP, tri, all⟩ := hT _ hm
  have obP : s.heap.get? P = some { cls := .none, data := .fields tb } := I.hok P _ hP
  have blP : s.heap.BuiltinsAt X.mg P := TB.bm.keeps I.bk
  -- the last step: the function object stands, all else is as before
  have last : ∀ (c' : Addr) (pm ctv : Value) (h1 : Heap) (t1 t2 : Nat) (H1 : Hp), Inv X pins σ H1 { s with heap := h1, toks := t1 } → LamX.ExtN H H1 → LamX.Tabs T H1 → H1 c' = some (LamX.CodeO c' (X.env.qual ++ "<lambda>")) →
      Q (.ref h1.objs.size) { s with heap := h1.push (PySem.W.kla_obj "<lambda>" (X.env.qual ++ "<lambda>") ps b sc (cloFrom X.env.cells sc.names []) pm c' ctv), toks := t2 } := by
    intro c' pm ctv h1 t1 t2 H1 I1 e1 T1 hc
    have new : H1 h1.objs.size = none := I1.hok.fresh (Nat.le_refl _)
    let r : Src := ⟨X.env.qual ++ "<lambda>", ps, b, sc⟩
    have obj : (h1.push (PySem.W.kla_obj "<lambda>" (X.env.qual ++ "<lambda>") ps b sc (cloFrom X.env.cells sc.names []) pm c' ctv)).get? h1.objs.size = some (PySem.W.kla_obj "<lambda>" r.q r.ps r.b r.sc (cloFrom X.env.cells r.sc.names []) pm c' ctv) := Heap.get?_push_size _ rfl
    have I2 := I1.laid (t' := t2) (o := FunO h1.objs.size c' r X.env.cells) (fun b o e => Heap.get?_push_of_some _ e) (Nat.le_refl _) (funO_ok obj)
    have grow : ∀ a o, H1 a = some o → upd H1 h1.objs.size (FunO h1.objs.size c' r X.env.cells) a = some o := by
      intro a o e
      rw [upd_ne (ne_of_none e new)]
      exact e
    exact h h1.objs.size c' _ _ I2 (e1.trans (.of grow)) (T1.ext grow) upd_same (grow _ _ hc)
  refine PySem.W.kla_eval hdef ?_
  cases hit : codeAmong pos tb.toList with
  | some cv =>
    obtain ⟨c', rfl, hc⟩ := all pos cv hit
    refine PySem.W.kla_makeFunctionHit (mg := X.mg) (c := c) (P := P) (ps := tb) clo I.ok.glob (I.mod.glob.keeps I.bk) hcode (TB.code.keeps I.bk) obP tri hit blP ?_
    intro ctv h' tk hx _
    exact last c' _ ctv h' tk tk H (I.kept hx) (.refl H) hT hc
  | none =>
    refine PySem.W.kla_makeFunction (mg := X.mg) (c := c) (P := P) (ps := tb) clo I.ok.glob (I.mod.glob.keeps I.bk) hcode (TB.code.keeps I.bk) obP tri hit TB.gP blP ?_
    intro c' ctv h' tk hx hge hlt hrec htb
    obtain ⟨c2, oc, vs, t, e2, hoc, hd, hv⟩ := hrec
    obtain rfl : c' = c2 := by cases e2; rfl
    have fresh : H c' = none := I.hok.fresh hge
    have I1 := LamX.inv_table (t' := tk) (more := #[rawInt pos.line, rawInt pos.col, .ref c']) I hP hx htb hge ⟨oc, vs, t, hoc, hd, hv⟩
    have eN : LamX.ExtN H (upd (upd H P (.tbl (tb ++ #[rawInt pos.line, rawInt pos.col, .ref c']))) c' (LamX.CodeO c' (X.env.qual ++ "<lambda>"))) := by
      intro a o e n
      have a1 : a ≠ P := fun z => by
        rw [z, hP] at e
        cases e
        exact n tb rfl
      rw [upd_ne (ne_of_none e fresh), upd_ne a1]
      exact e
    refine last c' _ ctv h' tk tk _ I1 eN ?_ upd_same
    intro p hp
    have lst : (tb ++ #[rawInt pos.line, rawInt pos.col, .ref c']).toList = tb.toList ++ [rawInt pos.line, rawInt pos.col, .ref c'] := by simp
    by_cases hb : p.1 = P
    · rw [hu p hp hb, hb]
      refine ⟨_, (upd_ne (ne_of_none hP fresh)).trans upd_same, ?_, ?_⟩
      · rw [lst]
        exact PySem.TriplesOk_snoc _ _ _ _ tri
      · intro p' cv hcv
        rw [lst] at hcv
        cases LamX.among_app _ tri hcv with
        | inl z =>
          obtain ⟨c0, z1, z2⟩ := all p' cv z
          exact ⟨c0, z1, eN _ _ z2 LamX.codeO_ne⟩
        | inr z => exact ⟨c', z, upd_same⟩
    · obtain ⟨tb', b1, b2, b3⟩ := hT p hp
      refine ⟨tb', ?_, b2, ?_⟩
      · rw [upd_ne (ne_of_none b1 fresh), upd_ne hb]
        exact b1
      · intro p' cv hcv
        obtain ⟨c0, z1, z2⟩ := b3 p' cv hcv
        exact ⟨c0, z1, eN _ _ z2 LamX.codeO_ne⟩
end
end FnV

set_option Elab.async false
set_option linter.all false
set_option maxRecDepth 100000
set_option maxHeartbeats 4000000
set_option autoImplicit false
/-! Lambdas as values over trees; told(x) for each of them in a comprehension. -/
namespace FnV
open PySem PySem.Spec PyProof.Rows L2 DL
section
variable {X : Cx} {pins : List (Addr × Obj)} {σ : L2.St} {H : Hp} {s : Shared}
/-- x(), in the def that got the lambda at f: the state of the def that made it is I -/
theorem pe_actX {CXg : CXT} {Eg : XK} {Ng : List Str} {qg : Str} {sg : Scope} {g f : Addr} {cdg : Value} {r : Src} {k i : Nat} {a : Str} {pn : List (Addr × Obj)} {xe : Value → Shared → Prop} {W : WX} {t : XK → TE} {p1 p2 : Pos}
    (I : Inv X pins σ H s) (L : LamX.LamS X.env.scope r.sc) (hq : r.q = X.env.qual ++ "<lambda>")
    (hbind : ∀ (cl : List (Str × Addr)) (pm cv ctv : Value), bindArgs (PySem.W.kla_fn "<lambda>" r.q r.ps r.b r.sc cl pm cv ctv) ⟨[], []⟩ = pure [])
    (tk : Takes ((cxOf CXg X.prog X.w X.K X.mg X.base Ng qg sg g cdg X.A X.stack s H Eg).tr pn xe) W) (hr : Room (k + 1) (X.A.deeper (envOfC qg sg s.heap.objs.size g cdg)))
    (hbody : ∀ (A : Around) (outer : List Env) (s : Shared) (H : Hp) (E : XK) (f c' : Addr), Room k (A.deeper (LamX.lamEnv X r.sc s.heap.objs.size f c')) → PE (LamX.lamCx X A outer s H E r.sc f c') r.b (t E))
    (hN : Ng[i]? = some a) (hv : Vis sg a) (hd : (a == ("__debug__" : Str)) = false := by decide) (hcd : (a == ("__classdict__" : Str)) = false := by decide) :
    PE ((cxOf CXg X.prog X.w X.K X.mg X.base Ng qg sg g cdg X.A X.stack s H Eg).tr pn xe) (.Call (.Name a p1) [] [] p2)
      (fun σZ HZ Q => σZ[i]? = some (some (.ref f)) ∧ (∃ c, HZ f = some (FunO f c r X.env.cells) ∧ HZ c = some (LamX.CodeO c r.q)) ∧ t (WE W σZ) σ HZ Q) := by
  refine ⟨fun pinsZ sZ σZ HZ Q IZ h => ?_⟩
  obtain ⟨hs, ⟨c, hfo, hc⟩, ht⟩ := h
  obtain ⟨q0, ps, b, sc⟩ := r
  subst hq
  refine wpAny_Call_Name_kw (thn ((pe_var (pos := p1) (i := i) hN hv hd hcd).run pinsZ sZ σZ HZ (fun v H1 => v = .ref f ∧ H1 = HZ) IZ ⟨.ref f, hs, rfl, rfl⟩) fun u s1 ⟨v, H1, I1, r1, q1⟩ => ?_)
  obtain ⟨ev, eH⟩ := q1
  subst ev
  rw [eH] at I1
  obtain rfl : u = Value.ref f := r1
  obtain ⟨⟨pm, ctv, of1⟩, _, _⟩ := I1.hok f _ hfo
  refine PySem.W.callWith_F0 ⟨_, _, _, _, of1⟩ ?_
  have un : Un (frs X.stack) [] H HZ s.heap s1.heap := I1.base
  obtain ⟨⟨oc, vs, tk', hoc, hdc, hvc⟩, _, _⟩ := I1.hok c _ hc
  have rc : codeAny (model X.prog X.w) (X.A.deeper (envOfC qg sg s.heap.objs.size g cdg)) (.call (.ref f) ⟨[], []⟩) (CR (L2.CX X.prog X.w) (envOfC qg sg s.heap.objs.size g cdg :: X.stack) X.prog X.w HZ s1 Q (WE W σZ)) s1 := by
    refine PySem.W.kla_callFunE hr.depth of1 rfl L.co L.gen rfl ⟨c, oc, vs, tk', rfl, hoc, hdc, hvc⟩ ?_
    rw [hbind]
    refine wpAny_pure (wpAny_newFunctionEnv (fun y hy => (L.own y hy).2) (fun y hy => absurd hy (by simp)) (fun h₁ hns hsb => ⟨I1.nolimit.fresh _ hsb, ?_⟩) L.kind)
    show codeAny _ _ (.expr b (LamX.lamEnv X sc s1.heap.objs.size f c)) _ _
    have kp : ∀ b o, s1.heap.get? b = some o → h₁.get? b = some o := fun b o e => hsb.extBut b o (Nat.ne_of_lt (Heap.lt_size e)) (Heap.get?_push_of_some _ e)
    have J : Inv (LamX.lamCx X (X.A.deeper (envOfC qg sg s.heap.objs.size g cdg)) (envOfC qg sg s.heap.objs.size g cdg :: X.stack) s1 HZ (WE W σZ) sc f c) [] σ HZ { s1 with heap := h₁, toks := s1.toks + ([] : List (Str × Value)).length } :=
      LamX.lam_start2 I L I1.env0 hr.hd un hns kp
    refine PySem.W.kla_codeExpr (wpAny_mono ((hbody _ _ s1 HZ (WE W σZ) f c (hr.deeper _)).run [] _ _ HZ Q J ht) (fun v s' hq => ?_) fun e s' hq => hq)
    obtain ⟨w', H', J', rv, q⟩ := hq
    exact ⟨w', H', J'.os, J'.bare, J'.base, J'.hok, rv, q⟩
  have hx := passAt tk σZ
  refine wpAny_call (codeAny_mono rc fun r s' hq => ?_)
  cases r with
  | error e => exact hx pinsZ HZ s1 e s' I1 hq
  | ok fl =>
    cases fl with
    | ret u => exact I1.after hq
    | next => exact False.elim hq
    | brk => exact False.elim hq
    | cont => exact False.elim hq
end
end FnV
namespace DL
open PySem PySem.Spec PyProof.Rows L2
section
variable {M : LK} {pn : Addr} {G G1 H H1 : Hp} {n : NS} {σ : L2.St} {δ : DEnv}
/-- an object that the reading never changes becomes known -/
theorem Rep.knowE {a : Addr} {p : Heap → Prop} (R : Rep M pn G n σ δ H) (h : H a = some (.ext p)) : ∃ G1, Rep M pn G1 n σ δ H ∧ Adv pn G H G1 H ∧ G1 a = some (.ext p) := by
  obtain ⟨kvs, hk⟩ := R.hp
  cases e : G a with
  | some u =>
    have := R.ex _ _ e
    rw [h] at this
    cases this
    exact ⟨G, R, Adv.refl, e⟩
  | none =>
    have np : pn ≠ a := fun z => by
      rw [z, h] at hk
      cases hk
    have A : Adv pn G H (upd G a (.ext p)) H := ⟨Ext.new e⟩
    refine ⟨upd G a (.ext p), ⟨fun b u ea => ?_, R.pen.grow np e, R.tab, fun b u ea => ?_, R.pe, fun b u ea => ?_, R.env.up A⟩, A, upd_same⟩
    · by_cases z : b = a
      · subst z; rw [upd_same] at ea; cases ea; exact h
      · rw [upd_ne z] at ea; exact R.ex _ _ ea
    · by_cases z : b = a
      · subst z; rw [upd_same] at ea; cases ea; exact fun ps z => by cases z
      · rw [upd_ne z] at ea; exact R.nt _ _ ea
    · obtain ⟨x, h1, h2, h3, h4⟩ := R.mu b u ea
      have z : b ≠ a := fun z => by
        rw [z, h] at h1
        cases h1
        cases u <;> simp only [MIs] at h2
      exact ⟨x, h1, h2.up A.ge, by rw [upd_ne z]; exact h3, h4⟩
/-- a lambda as a value -/
def dLamV (r : Src) (fr : List (Str × Addr)) : DTE := fun _ n q _ => q (.fn r fr) n
/-- told(x) in a comprehension: x is one of the first m lambdas of L, whose readings are fbs -/
def dToldV (told : DTold) (m : Nat) (L : Nat → Src) (fr : List (Str × Addr)) (fbs : Nat → DTE) (vs : List Nat) (fe : DTE) : DTE := fun δ n q e =>
  fe δ n (fun x n1 => ∃ i, i < m ∧ x = .fn (L i) fr ∧ told (fun n' q' y => fbs i (wipeD δ vs) n' q' fun _ => y) n1 q) e
end
section
variable {X : Cx} {M : LK} {W : WX}
theorem dp_lamV {c P : Addr} {ps : Arguments} {b : Expr} {sc : Scope} {pos : Pos} (TB : LamX.TabB X.base X.mg c P) (hcode : X.env.code = .ref c) (hm : (P, X.env.qual ++ "<lambda>") ∈ M.L.T) (hu : ∀ p ∈ M.L.T, p.1 = P → p.2 = X.env.qual ++ "<lambda>")
    (L : LamX.LamS X.env.scope sc) (hdef : defaultsOf ps X.env = ([], [])) : PE X (.Lambda ps b sc pos) (liftE M W (dLamV ⟨X.env.qual ++ "<lambda>", ps, b, sc⟩ X.env.cells)) := by
  refine ⟨fun pins s σ H Q I ⟨pn, G, n, δ, q, e, R, hf, hQ, hX⟩ => ?_⟩
  refine FnV.made I TB hcode hm hu R.tab hdef L fun f c' H1 s' I1 eN T1 ho hc => ⟨.ref f, H1, I1, rfl, ?_⟩
  obtain ⟨R1, A1⟩ := R.grow eN T1
  obtain ⟨G2, R2, A2, g2⟩ := R1.knowE (show H1 f = some (.ext _) from ho)
  obtain ⟨G3, R3, A3, g3⟩ := R2.knowE (show H1 c' = some (.ext _) from hc)
  refine hQ G3 (.ref f) (.fn _ _) n H1 (R.tr (R.tr A1 A2) A3) R3 ?_ hf
  simp only [Is]
  exact ⟨f, c', rfl, A3.ge _ _ g2, g3⟩
theorem wipeD_at : ∀ {vs : List Nat} {δ : DEnv} {i : Nat} {d : D}, (wipeD δ vs)[i]? = some (some d) → δ[i]? = some (some d) ∧ i ∉ vs := by
  intro vs
  induction vs with
  | nil => exact fun h => ⟨h, by simp⟩
  | cons v vs ih =>
    intro δ i d h
    have h : ((wipeD δ vs).set v none)[i]? = some (some d) := h
    by_cases z : v = i
    · subst z
      have := getO h
      cases this
    · rw [List.getElem?_set_ne z] at h
      obtain ⟨h1, h2⟩ := ih h
      exact ⟨h1, fun hm => (List.mem_cons.mp hm).elim (fun e => z e.symm) h2⟩
theorem wipe_at : ∀ {vs : List Nat} {σ : L2.St} {i : Nat}, i ∉ vs → (L2.wipe σ vs)[i]? = σ[i]? := by
  intro vs
  induction vs with
  | nil => exact fun _ => rfl
  | cons v vs ih =>
    intro σ i h
    have e : L2.wipe σ (v :: vs) = (L2.wipe σ vs).set v none := rfl
    rw [e, List.getElem?_set_ne (fun z => h (by rw [z]; exact List.mem_cons_self)), ih (fun hm => h (List.mem_cons_of_mem _ hm))]
theorem wipeD_len : ∀ {vs : List Nat} {δ : DEnv}, (wipeD δ vs).length = δ.length
  | [], _ => rfl
  | v :: vs, δ => by
    have e : wipeD δ (v :: vs) = (wipeD δ vs).set v none := rfl
    rw [e, List.length_set, wipeD_len]
/-- the def's own slots, but for the comprehension's names -/
theorem EnvIs.outer {G : Hp} {σ σ0 : L2.St} {δ : DEnv} {vs : List Nat} (E : EnvIs M G σ δ) (h : L2.wipe σ vs = L2.wipe σ0 vs) : EnvIs M G σ0 (wipeD δ vs) where
  len := by
    have := congrArg List.length h
    rw [wipe_length, wipe_length] at this
    rw [wipeD_len, ← this]
    exact E.len
  at_ := fun i d e => by
    obtain ⟨h1, h2⟩ := wipeD_at e
    obtain ⟨v, h3, h4⟩ := E.at_ i d h1
    refine ⟨v, ?_, h4⟩
    rw [← wipe_at (σ := σ0) h2, ← h, wipe_at h2]
    exact h3
theorem item_told {scope : Scope} {vs : List Nat} {x a : Str} {cT : Addr} {k m : Nat} {stT : Stmt} {Ng : List Str} {p pos : Pos} {arg : Expr} {told : DTold} {L : Nat → Src} {fbs : Nat → DTE} {fe : DTE}
    (Df : DefC X.K X.mg x stT [a] cT) (Sg : FnScope Ng [a] (defScope stT)) (hNg : Ng[0]? = some a) (hva : Vis (defScope stT) a) (hG : ∀ (g : Addr) (q : Str), LamX.GivesS X Ng x (defScope stT) g (.ref cT) (defBody stT) a q (TTd M told)) (hr : Room (k + 2) X.A)
    (hL : ∀ i, i < m → (L i).q = X.env.qual ++ "<lambda>" ∧ LamX.LamS X.env.scope (L i).sc ∧ (∀ (q : Str) (cl : List (Str × Addr)) (pm cv ctv : Value), bindArgs (PySem.W.kla_fn "<lambda>" q (L i).ps (L i).b (L i).sc cl pm cv ctv) ⟨[], []⟩ = pure []) ∧
      ∀ (A : Around) (outer : List Env) (s : Shared) (H : Hp) (E : XK) (f c' : Addr), Room k (A.deeper (LamX.lamEnv X (L i).sc s.heap.objs.size f c')) → PE (LamX.lamCx X A outer s H E (L i).sc f c') (L i).b (liftE M (fun cls d _ H' => E cls d H') (fbs i)))
    (hg : ∀ s H C cl fp, Gl (LcI.Blk X s H scope C cl fp) x) (he : ∀ s H C cl fp, PE (LcI.Blk X s H scope C cl fp) arg (liftE M W0 fe)) (hst : noStar arg = true)
    (hdb : (x == ("__debug__" : Str)) = false := by decide) (hd : (a == ("__debug__" : Str)) = false := by decide) (hcd : (a == ("__classdict__" : Str)) = false := by decide) :
    LcI.Item X scope vs (.Call (.Name x p) [arg] [] pos) (liftE M W0 (dToldV told m L X.env.cells fbs vs fe)) := by
  intro s0 H0 C cl fp p0 σ0 I0 hf pins s σ H Q I hw h
  obtain ⟨g, oc, od, an, osl, dV, kV, doc, pm, ct, lk, hcd2, hmg, kp, bn⟩    := Df.ex
  obtain ⟨pn, G, n, δ, q, e, R, hfe, hQ, hX⟩ := h
  have ha : PA (LcI.Blk X s0 H0 scope C cl fp) [arg] (liftA M W0 (dCons fe dNil)) := da_cons (he s0 H0 C cl fp) da_nil (starEach_cons hst)
  have hA : liftA M W0 (dCons fe dNil) σ H fun ws H1 => ∃ (f c : Addr) (i : Nat) (G1 : Hp) (n1 : NS), ws = [.ref f] ∧ i < m ∧ Adv pn G H G1 H1 ∧ Rep M pn G1 n1 σ δ H1 ∧ G1 f = some (FunO f c (L i) X.env.cells) ∧ G1 c = some (LamX.CodeO c (L i).q) ∧
      told (fun n' q' y => fbs i (wipeD δ vs) n' q' fun _ => y) n1 q := by
    refine ⟨pn, G, n, δ, fun ds n1 => ∃ d, ds = [d] ∧ ∃ i, i < m ∧ d = .fn (L i) X.env.cells ∧ told (fun n' q' y => fbs i (wipeD δ vs) n' q' fun _ => y) n1 q, e, R, ?_, ?_, hX⟩
    · show fe δ n (fun x n1 => _) e
      have eq1 : (fun (x : D) (n1 : NS) => ∃ i, i < m ∧ x = .fn (L i) X.env.cells ∧ told (fun n' q' y => fbs i (wipeD δ vs) n' q' fun _ => y) n1 q) = fun x n1 => dNil δ n1 (fun xs n2 => ∃ d, x :: xs = [d] ∧ ∃ i, i < m ∧ d = .fn (L i) X.env.cells ∧ told (fun n' q' y => fbs i (wipeD δ vs) n' q' fun _ => y) n2 q) e := by
        funext x n1
        simp only [dNil, List.cons.injEq, and_true, exists_eq_left']
      rw [← eq1]
      exact hfe
    · intro G1 ws ds n1 H1 A1 R1 i1 h1
      obtain ⟨d, rfl, i, hi, rfl, ht⟩ := h1
      obtain ⟨v, rfl, iv⟩ := i1.one
      simp only [Is] at iv
      obtain ⟨f, c, rfl, g1, g2⟩ := iv
      exact ⟨f, c, i, G1, n1, rfl, hi, A1, R1, g1, g2, ht⟩
  refine wpAny_Call_Name_kw (ld_glob I (hg s0 H0 C cl fp) hmg (PySem.W.callWith_K (h₀ := X.base) I.ok.mod.kin kp (thn (ha.run pos pins s σ H _ I hA) fun us s1 ⟨ws, H1, I1, r, z⟩ => ⟨I1.kIn, ?_⟩) (starEach_cons hst) (by rfl)) hdb)
  obtain ⟨f, c, i, G1, n1, rfl, hi, A1, R1, g1, g2, ht⟩ := z
  obtain ⟨uf, rfl, rf⟩ : ∃ uf, us = [uf] ∧ L2.RelV (.ref f) uf := by
    cases r with
    | cons rf rn =>
      cases rn
      exact ⟨_, rfl, rf⟩
  obtain rfl : uf = Value.ref f := rf
  obtain ⟨lq, lS, lb, lbody⟩ := hL i hi
  have J1 := LcI.back I0 hf I1
  have rc : codeAny (model X.prog X.w) X.A (.call (.ref g) ⟨[.ref f], []⟩) (CR C8.CX0 X.stack X.prog X.w H1 s1 Q C8.E0) s1 := by
    have hTT : TTd M told (fun E H' Q' => (∃ c2, H' f = some (FunO f c2 (L i) X.env.cells) ∧ H' c2 = some (LamX.CodeO c2 (L i).q)) ∧ liftE M (fun cls d _ H' => E cls d H') (fbs i) σ0 H' Q') H1 Q := by
      have E0 : EnvIs M G1 σ0 (wipeD δ vs) := R1.env.outer hw
      have hfn : Is M G1 (.ref f) (.fn (L i) X.env.cells) := by
        simp only [Is]
        exact ⟨f, c, rfl, g1, g2⟩
      have E1 : EnvIs M G1 (some (.ref f) :: σ0) (some (.fn (L i) X.env.cells) :: wipeD δ vs) := by
        refine ⟨by simp only [List.length_cons, E0.len], fun j d ej => ?_⟩
        cases j with
        | zero =>
          simp at ej
          subst ej
          exact ⟨_, rfl, hfn⟩
        | succ j => exact E0.at_ j d (by simpa using ej)
      let fb2 : DTE := fun δ2 n q e => ∃ δ0, δ2 = some (.fn (L i) X.env.cells) :: δ0 ∧ fbs i δ0 n q (fun _ => e δ2)
      have efb : ∀ (n' : NS) (q' : D → NS → Prop) (y : DY), fb2 (some (.fn (L i) X.env.cells) :: wipeD δ vs) n' q' (fun _ => y) = fbs i (wipeD δ vs) n' q' (fun _ => y) := by
        intro n' q' y
        apply propext
        constructor
        · rintro ⟨δ0, e0, h0⟩
          cases e0
          exact h0
        · exact fun h0 => ⟨_, rfl, h0⟩
      refine ⟨fb2, pn, G1, n1, some (.ref f) :: σ0, some (.fn (L i) X.env.cells) :: wipeD δ vs, q, ?_, R1.env_of E1, ?_, ?_, ?_⟩
      · intro E2 H2 Q2 ⟨pn3, G3, n3, δ3, q3, e3, R3, h3, hQ3, hX3⟩
        obtain ⟨δ0, rfl, h3⟩ := h3
        obtain ⟨v, hv1, hv2⟩ := R3.env.at_ 0 _ rfl
        simp at hv1
        subst hv1
        simp only [Is] at hv2
        obtain ⟨f3, c3, ef, k1, k2⟩ := hv2
        cases ef
        refine ⟨⟨c3, R3.ex _ _ k1, R3.ex _ _ k2⟩, ?_⟩
        have E4 : EnvIs M G3 σ0 δ0 := ⟨by simpa using R3.env.len, fun j d ej => by
          obtain ⟨v, h1, h2⟩ := R3.env.at_ (j + 1) d (by simpa using ej)
          exact ⟨v, by simpa using h1, h2⟩⟩
        refine ⟨pn3, G3, n3, δ0, q3, _, R3.env_of E4, h3, fun G' v d n' H' A' R' i' h' => ?_, fun G' C a ns ds n' H' A' R' hx z => ?_⟩
        · have E5 : EnvIs M G' (some (.ref f) :: σ0) (some (.fn (L i) X.env.cells) :: δ0) := R3.env.up A'
          exact hQ3 G' v d n' H' A' (R'.env_of E5) i' h'
        · have E5 : EnvIs M G' (some (.ref f) :: σ0) (some (.fn (L i) X.env.cells) :: δ0) := R3.env.up A'
          exact hX3 G' C a ns ds n' H' A' (R'.env_of E5) hx z
      · exact isE_of E1.len E1.at_
      · simp only [efb]
        exact ht
      · intro G' v d n' H' A' R' i' h'
        exact hQ G' v d n' H' (R.tr A1 A') (R1.back R' A') i' h'
    refine LamX.run_ofS (N := Ng) (ps := [a]) (us := [.ref f]) (vs := [.ref f]) lk hcd2 Sg hr J1.env0 (bn s1 [.ref f] J1.kIn rfl) (.cons rfl .nil) rfl fun hr' => ?_
    obtain ⟨t', ht', hq'⟩ := hG g (L i).q f c s1 H1 Q _
      (fun W pn2 xe p1 p2 tk => PEw (FnV.pe_actX (i := 0) J1 lS lq (fun cl pm cv ctv => lb _ cl pm cv ctv) tk hr' (t := fun E => liftE M (fun cls d _ H' => E cls d H') (fbs i)) (fun A outer s H E f c' hr2 => lbody A outer s H E f c' hr2) hNg hva hd hcd)
        fun σZ HZ Q2 hz => ⟨hz.1, hz.2.2.1, hz.2.2.2⟩) (R1.ex _ _ g2) hTT
    exact ⟨t', ht'.nox, hq'⟩
  refine wpAny_call (codeAny_mono rc fun r s2 hq => ?_)
  cases r with
  | error e => exact (show False from hq).elim
  | ok fl =>
    cases fl with
    | ret u => exact I1.after hq
    | next => exact False.elim hq
    | brk => exact False.elim hq
    | cont => exact False.elim hq
end
end DL

set_option Elab.async false
set_option linter.all false
set_option maxRecDepth 100000
set_option maxHeartbeats 4000000
set_option autoImplicit false
/-! More of numbers, texts, tests. -/
namespace DL
open PySem PySem.Spec PyProof.Rows L2
section
variable {X : Cx} {M : LK} {W : WX}
/-! is True, is False -/
theorem op_isBl : OpR X (compareOp .Is) (fun x y H Q => ∃ p q : Bool, x = .bl p ∧ y = .bl q ∧ Q (.bl (decide (p = q))) H) := by
  intro pins s σ H x y v u Q I rx ry h
  obtain ⟨p, q, rfl, rfl, h⟩ := h
  cases rx
  cases ry
  have fin : EP X pins σ Q (.bool (decide (p = q))) s := ⟨.bl _, H, I, rfl, h⟩
  cases p <;> cases q <;> exact wpAny_pure fin
def gIsBl : GR2 := fun x y n q => match x, y with | .bl p, .bl r => q (.bl (decide (p = r))) n | _, _ => False
theorem dr_isBl : DR2 M (fun x y H Q => ∃ p q : Bool, x = .bl p ∧ y = .bl q ∧ Q (.bl (decide (p = q))) H) gIsBl := by
  intro pn G n σ δ H v u x y q Q R ix iy h k
  cases x <;> cases y <;> simp only [gIsBl] at h
  simp only [Is] at ix iy
  exact ⟨_, _, ix, iy, k G _ _ n H Adv.refl R (by simp only [Is]) h⟩
/-! a test of a number, a truth, None, a text -/
def truD : D → Option Bool | .non => some false | .bl b => some b | .int i => some (i != 0) | _ => none
def dTru (f : DTE) : DTT := fun δ n q e => f δ n (fun d n1 => match truD d with | some b => q b n1 | none => False) e
theorem dt_tru {e : Expr} {f : DTE} (h : PE X e (liftE M W f)) (he : ∀ whole, isTrue e X.env whole = (do let v ← whole; standAt e.pos; holding [v] (truthy v)) := by intro _; rfl) : PT X e (liftT M W (dTru f)) :=
  PTw (pt_truth h he) fun σ H Q ⟨pn, G, n, δ, q, ex, R, hf, hQ, hX⟩ => by
    refine ⟨pn, G, n, δ, _, ex, R, hf, fun G1 v d n1 H1 A1 R1 i1 h1 => ?_, hX⟩
    cases d <;> simp only [truD] at h1
    · simp only [Is] at i1; subst i1; exact ⟨false, rfl, hQ G1 _ n1 H1 A1 R1 h1⟩
    · rename_i b; simp only [Is] at i1; subst i1; exact ⟨b, rfl, hQ G1 _ n1 H1 A1 R1 h1⟩
    · rename_i i; simp only [Is] at i1; subst i1; exact ⟨(i != 0), rfl, hQ G1 _ n1 H1 A1 R1 h1⟩
/-! // by any number that is not too long -/
def FDivOk (j : Int) : Prop := j ≠ 0 ∧ j.natAbs.log2 < 9000
theorem op_fdivW : OpR X (binaryOp .FloorDiv) (fun x y H Q => ∃ i j : Int, x = .int i ∧ y = .int j ∧ FDivOk j ∧ Q (.int (i.fdiv j)) H) := by
  intro pins s σ H x y v u Q I rx ry h
  obtain ⟨i, j, rfl, rfl, hc, q⟩ := h
  obtain ⟨t, rfl⟩ := rx
  obtain ⟨t', rfl⟩ := ry
  exact floordiv_int hc.1 ⟨.int _, H, I.tok _, ⟨_, rfl⟩, q⟩ (.inl (PyProof.noPylong_of_log2 hc.2))
def gFDiv : GR2 := fun x y n q => match x, y with | .int i, .int j => FDivOk j ∧ q (.int (i.fdiv j)) n | _, _ => False
theorem dr_fdivW : DR2 M (fun x y H Q => ∃ i j : Int, x = .int i ∧ y = .int j ∧ FDivOk j ∧ Q (.int (i.fdiv j)) H) gFDiv := by
  intro pn G n σ δ H v u x y q Q R ix iy h k
  cases x <;> cases y <;> simp only [gFDiv] at h
  simp only [Is] at ix iy
  exact ⟨_, _, ix, iy, h.1, k G _ _ n H Adv.refl R (by simp only [Is]) h.2⟩
theorem dp_fdivW {a b : Expr} {pos : Pos} {fa fb : DTE} (ha : PE X a (liftE M W fa)) (hb : PE X b (liftE M W fb)) : PE X (.BinOp a .FloorDiv b pos) (liftE M W (dOp gFDiv fa fb)) := dp_op op_fdivW dr_fdivW ha hb
/-! a text, n times -/
theorem rep_cps (l : List Nat) : ∀ (n : Nat) (acc : Array Nat), ((List.replicate n (S l).cps).foldl (· ++ ·) acc) = acc ++ ((List.replicate n l).flatten).toArray
  | 0, acc => by simp
  | n + 1, acc => by
    rw [List.replicate_succ, List.foldl_cons, rep_cps l n, List.replicate_succ, List.flatten_cons]
    simp [S, Array.append_assoc]
theorem txt_mul {l : List Nat} {n : Int} (h : 0 ≤ n) : Txt.mul (S l) n = S ((List.replicate n.toNat l).flatten) := by
  unfold Txt.mul
  by_cases h1 : n < 1
  · have : n = 0 := by omega
    subst this
    rfl
  · rw [if_neg h1]
    by_cases h2 : (n == 1 || (S l).length == 0) = true
    · rw [if_pos h2]
      simp only [Bool.or_eq_true, beq_iff_eq] at h2
      rcases h2 with rfl | h2
      · simp
      · have : l = [] := by
          have e : (S l).length = l.length := by simp [S, Str.length]
          rw [e] at h2
          exact List.length_eq_zero_iff.mp h2
        subst this
        simp
    · rw [if_neg h2]
      show (⟨_⟩ : Str) = _
      rw [rep_cps]
      simp [S]
theorem op_mulS : OpR X (binaryOp .Mult) (fun x y H Q => ∃ (l : List Nat) (n : Int), x = .str (S l) ∧ y = .int n ∧ 0 ≤ n ∧ n ≤ 100000 ∧ l.length * n.toNat ≤ 100000 ∧ Q (.str (S ((List.replicate n.toNat l).flatten))) H) := by
  intro pins s σ H x y v u Q I rx ry h
  obtain ⟨l, n, rfl, rfl, h0, h1, h2, q⟩ := h
  obtain ⟨t, rfl⟩ := rx
  obtain ⟨t', rfl⟩ := ry
  have len : (S l).length = l.length := by simp [S, Str.length]
  refine SB.mul ⟨?_, fun g1 g2 g3 => ?_, fun g1 g2 => ?_⟩ fun t' k => ?_
  · have a1 : ¬ n < -(2 ^ 63 : Int) := by omega
    have a2 : ¬ n ≥ 2 ^ 63 := by omega
    rw [decide_eq_false a1, decide_eq_false a2]
    rfl
  · have hl : (l.length : Int) * n ≤ 100000 := by
      have : ((l.length * n.toNat : Nat) : Int) ≤ 100000 := Int.ofNat_le.mpr h2
      rw [Int.natCast_mul, Int.toNat_of_nonneg h0] at this
      exact this
    rw [len] at g3
    have g4 : (2 ^ 63 - 1 : Int) / n < (l.length : Int) := g3
    have g5 : (2 ^ 63 - 1 : Int) < (l.length : Int) * n := by
      have := (Int.ediv_lt_iff_lt_mul (show (0 : Int) < n by omega)).mp g4
      exact this
    omega
  · rw [len]
    have : l.length * n.toNat ≤ sizeLine := le_line h2
    exact decide_eq_false (by omega)
  · rw [txt_mul h0]
    exact ⟨.str _, H, I.tok _, ⟨_, rfl⟩, q⟩
def gMulS : GR2 := fun x y n q => match x, y with
  | .str l, .int k => 0 ≤ k ∧ k ≤ 100000 ∧ l.length * k.toNat ≤ 100000 ∧ q (.str ((List.replicate k.toNat l).flatten)) n
  | _, _ => False
theorem dr_mulS : DR2 M (fun x y H Q => ∃ (l : List Nat) (n : Int), x = .str (S l) ∧ y = .int n ∧ 0 ≤ n ∧ n ≤ 100000 ∧ l.length * n.toNat ≤ 100000 ∧ Q (.str (S ((List.replicate n.toNat l).flatten))) H) gMulS := by
  intro pn G n σ δ H v u x y q Q R ix iy h k
  cases x <;> cases y <;> simp only [gMulS] at h
  simp only [Is] at ix iy
  exact ⟨_, _, ix, iy, h.1, h.2.1, h.2.2.1, k G _ _ n H Adv.refl R (by simp only [Is]) h.2.2.2⟩
theorem dp_mulS {a b : Expr} {pos : Pos} {fa fb : DTE} (ha : PE X a (liftE M W fa)) (hb : PE X b (liftE M W fb)) : PE X (.BinOp a .Mult b pos) (liftE M W (dOp gMulS fa fb)) := dp_op op_mulS dr_mulS ha hb
end
end DL

set_option Elab.async false
set_option linter.all false
set_option maxRecDepth 100000
set_option maxHeartbeats 4000000
set_option autoImplicit false
/-! isinstance with several kinds; str of an own instance; f-strings; repr. -/
namespace DL
open PySem PySem.Spec PyProof.Rows L2
section
variable {X : Cx} {M : LK} {W : WX}
/-! isinstance(x, (A, B, ..)) -/
theorem call_isiS : CallR X (.builtin "isinstance") (fun xs H Q => ∃ (x : V) (tp : Addr) (cs : List V) (t : Value) (us : List Value) (b : Bool), xs = [x, .ref tp] ∧ SqT X.K H tp cs ∧ Paired ClsV cs us ∧ TyX X.K H x t ∧ PySem.W.kitAny X.K t us = some b ∧ Q (.bl b) H) := by
  intro pins s σ H xs us Q I r h
  obtain ⟨x, tp, cs, t, ws, b, rfl, hT, k, ty, e, q⟩ := h
  obtain ⟨u1, u2, rfl, r1, r2⟩ := vals2 r
  obtain rfl : u2 = Value.ref tp := r2
  obtain ⟨P, Z, p, hx⟩ := kit_of I r1 ty
  obtain ⟨its, rv, ⟨o, h1, h2, n, h3⟩, _⟩ := I.tuple hT
  have e3 := ClsV.all k rv
  subst e3
  obtain ⟨oc, od, dt, sl⟩ := o
  simp only at h2 h3
  subst h2 h3
  exact PySem.W.kia_tup Z I.kIn p h1 e hx fun tk => ⟨.bl b, H, I.tok tk, rfl, q⟩
def clsDs : List D → Option (List Value)
  | [] => some []
  | c :: r => match clsD c, clsDs r with | some u, some us => some (u :: us) | _, _ => none
theorem clsDs_ok {G : Hp} : ∀ {ds : List D} {vs : List V} {us : List Value}, clsDs ds = some us → IsL M G vs ds → Paired ClsV vs us
  | [], [], us, h, _ => by
    simp only [clsDs, Option.some.injEq] at h
    subst h
    exact .nil
  | c :: r, v :: vs, us, h, i => by
    simp only [clsDs] at h
    simp only [IsL] at i
    cases e1 : clsD c with
    | none => rw [e1] at h; cases h
    | some u =>
      cases e2 : clsDs r with
      | none => rw [e1, e2] at h; cases h
      | some us2 =>
        rw [e1, e2] at h
        cases h
        exact .cons (clsD_ok e1 i.1) (clsDs_ok e2 i.2)
  | [], _ :: _, _, _, i => by simp only [IsL] at i
  | _ :: _, [], _, _, i => by simp only [IsL] at i
def gIsiT (K : PySem.W.Frag) : GC := fun xs n q => match xs with
  | [x, .tup cs] => ∃ t us b, tyD K x t ∧ clsDs cs = some us ∧ PySem.W.kitAny K t us = some b ∧ q (.bl b) n
  | _ => False
theorem drc_isiT (hK : X.K = M.L.K) : DRC M (fun xs H Q => ∃ (x : V) (tp : Addr) (cs : List V) (t : Value) (us : List Value) (b : Bool), xs = [x, .ref tp] ∧ SqT X.K H tp cs ∧ Paired ClsV cs us ∧ TyX X.K H x t ∧ PySem.W.kitAny X.K t us = some b ∧ Q (.bl b) H) (gIsiT M.L.K) := by
  intro pn G n σ δ H vs xs q Q R iv h k
  unfold gIsiT at h
  split at h
  · rename_i x cs
    obtain ⟨t, us, b, h1, h2, h3, h4⟩ := h
    obtain ⟨v, v', rfl, iw, iw'⟩ := iv.two
    simp only [Is] at iw'
    obtain ⟨p, ws, rfl, g1, g2⟩ := iw'
    exact ⟨v, p, ws, t, us, b, rfl, by rw [hK]; exact R.ex.seqT g1, clsDs_ok h2 g2, by rw [hK]; exact tyD_ok R.ex h1 iw, by rw [hK]; exact h3, k G _ _ n H Adv.refl R (by simp only [Is]) h4⟩
  · exact h.elim
/-! str(x), x an own instance -/
structure StrC (K : PySem.W.Frag) (C f : Addr) : Prop where
  l : PySem.W.findIn K (.ref C) "__str__" = some (some (.ref f))
  lf : PySem.W.isFn K (.ref f) = true
structure StrD (P : Program) (w : World) (K : PySem.W.Frag) (mg : Str → Option Value) (base : Heap) (M : LK) (k : Nat) (C : Addr) (s : DSp) : Prop where
  ex : ∃ f fd ps, StrC K C f ∧ FnOk P w K mg base (L2.CX P w) k f fd ps (lift M 1 s) ∧ Binds K fd ps []
def rStrO (C : Addr) (sp : Sp) : List V → Hp → VK → Prop := fun xs H Q => ∃ (a dx : Addr) (fs : List (Str × V)), xs = [.ref a] ∧ H a = some (.ins C dx fs) ∧ sp [.ref a] H (fun v H' => ∃ z, v = .str z ∧ Q (.str z) H') OB.noE
theorem call_strO {C : Addr} {s : DSp} {k j : Nat} (c : StrD X.prog X.w X.K X.mg X.base M k C s) (hr : Room j X.A) (hkj : k + 2 ≤ j) : CallR X (.type "str") (fun xs H Q => (∃ i : Int, xs = [.int i] ∧ i.natAbs.log2 < 1920 ∧ Q (.str (toString i)) H) ∨ rStrO C (lift M 1 s) xs H Q) := by
  obtain ⟨f, fd, ps, o, F, b⟩ := c.ex
  intro pins st σ H xs us Q I r h
  rcases h with h | ⟨a, dx, fs, rfl, ha, h⟩
  · exact call_str_int pins st σ H xs us Q I r h
  · cases r with
    | cons rx rr =>
      cases rr
      rename_i u
      obtain rfl : u = Value.ref a := rx
      obtain ⟨mA, J, _⟩ := ins_get I.hok ha
      obtain ⟨od, J, _⟩ := J.look
      have hr2 : Room (k + 2) X.A := hr.mono hkj
      have cal := OB.below (A := X.A.in1.in1) F b hr2.in1.in1 rfl OB.passNo I (us := [.ref a]) (vs := [.ref a]) (.cons rfl .nil) h
      refine PySem.W.kso_call (by have := hr2.un; show X.A.units + 1 + 1 < cLine; omega) I.kIn J o.l o.lf (wpAny_mono cal (fun w s' q => ?_) fun _ _ z => z)
      obtain ⟨z, H', I', rz, y, rfl, q⟩ := q
      obtain ⟨tk, rfl⟩ := (show ∃ t, w = Value.str y t from rz)
      exact ⟨.str y, H', I', ⟨tk, rfl⟩, q⟩
def gStrO (C : Addr) (s : DSp) : GC := fun xs n q => match xs with
  | [.ins C' ns ys] => C' = C ∧ s [.ins C' ns ys] n (fun d n' => ∃ l, d = .str l ∧ q (.str l) n') (fun _ _ _ _ => False)
  | xs => gStr xs n q
theorem drc_strO {C : Addr} {s : DSp} : DRC M (fun xs H Q => (∃ i : Int, xs = [.int i] ∧ i.natAbs.log2 < 1920 ∧ Q (.str (toString i)) H) ∨ rStrO C (lift M 1 s) xs H Q) (gStrO C s) := by
  intro pn G n σ δ H vs xs q Q R iv h k
  unfold gStrO at h
  split at h
  · rename_i C' ns ys
    obtain ⟨rfl, h⟩ := h
    obtain ⟨v, rfl, iw⟩ := iv.one
    have i0 := iw
    simp only [Is] at i0
    obtain ⟨p, dx, fs, rfl, g1, _, _⟩ := i0
    refine .inr ⟨p, dx, fs, rfl, R.ex _ _ g1, pn, G, n, _, _, _, R.bare, iv, rfl, h, fun G' v d n' H' A' R' i' h' => ?_, fun G' C a ns xs n' H' A' R' hx h' => h'.elim⟩
    obtain ⟨l, rfl, h'⟩ := h'
    simp only [Is] at i'
    subst i'
    exact ⟨_, rfl, k G' _ _ n' H' A' (R.back R' A') (by simp only [Is]) h'⟩
  · exact .inl (drc_str pn G n σ δ H vs xs q Q R iv h k)
/-! f-strings -/
def dFmt (f : DTE) : DTE := fun δ n q e => f δ n (fun x n1 => match x with
  | .str l => l.length ≤ 100000 ∧ q (.str l) n1
  | .int i => i.natAbs.log2 < 1920 ∧ q (.str (decI i)) n1
  | _ => False) e
theorem dp_fmt {e : Expr} {f : DTE} {pos : Pos} (h : PE X e (liftE M W f)) : PE X (.FormattedValue e (-1) none pos) (liftE M W (dFmt f)) :=
  PEw (pe_fmt h) fun σ H Q ⟨pn, G, n, δ, q, ex, R, hf, hQ, hX⟩ => by
    refine ⟨pn, G, n, δ, _, ex, R, hf, fun G1 v d n1 H1 A1 R1 i1 h1 => ?_, hX⟩
    cases d <;> try exact h1.elim
    · rename_i i
      simp only [Is] at i1
      exact .inr ⟨i, i1, h1.1, hQ G1 _ (.str (decI i)) n1 H1 A1 R1 (by simp only [Is]; rw [str_int]) h1.2⟩
    · rename_i l
      simp only [Is] at i1
      refine .inl ⟨S l, i1, ?_, hQ G1 _ (.str l) n1 H1 A1 R1 (by simp only [Is]) h1.2⟩
      have : (S l).length = l.length := by simp [S, Str.length]
      rw [this]
      exact le_line h1.1
/-- the parts one behind the other -/
def dJs : List DTE → List Nat → DTE
  | [], acc => fun _ n q _ => q (.str acc) n
  | f :: fs, acc => fun δ n q e => f δ n (fun x n1 => match x with | .str l => acc.length + l.length ≤ 100000 ∧ dJs fs (acc ++ l) δ n1 q e | _ => False) e
theorem js_lift : ∀ (fs : List DTE) (acc : List Nat) (σ : L2.St) (H : Hp) (Q : VK), liftE M W (dJs fs acc) σ H Q → tJs (fs.map (liftE M W)) (S acc) σ H fun out H1 => Q (.str out) H1
  | [], acc, σ, H, Q, ⟨pn, G, n, δ, q, ex, R, hf, hQ, hX⟩ => hQ G (.str (S acc)) (.str acc) n H Adv.refl R (by simp only [Is]) hf
  | f :: fs, acc, σ, H, Q, ⟨pn, G, n, δ, q, ex, R, hf, hQ, hX⟩ => by
    refine ⟨pn, G, n, δ, _, ex, R, hf, fun G1 v d n1 H1 A1 R1 i1 h1 => ?_, hX⟩
    cases d <;> try exact h1.elim
    rename_i l
    simp only [Is] at i1
    refine ⟨S l, i1, ?_, ?_⟩
    · rw [S_app]
      have : (S (acc ++ l)).length = acc.length + l.length := by simp [S, Str.length]
      rw [this]
      exact le_line h1.1
    · rw [S_app]
      exact js_lift fs (acc ++ l) σ H1 Q ⟨pn, G1, n1, δ, q, ex, R1, h1.2, fun G2 v d n2 H2 A2 R2 i2 h2 => hQ G2 v d n2 H2 (R.tr A1 A2) R2 i2 h2, hX.on R A1⟩
theorem dj_nil : PJ X [] (([] : List DTE).map (liftE M W)) := .nil
theorem dj_cons {e : Expr} {es : List Expr} {f : DTE} {fs : List DTE} (h : PE X e (liftE M W f)) (r : PJ X es (fs.map (liftE M W))) : PJ X (e :: es) ((f :: fs).map (liftE M W)) := .cons h r
theorem dp_joined {v1 v2 : Expr} {rest : List Expr} {fs : List DTE} {pos : Pos} (h : PJ X (v1 :: v2 :: rest) (fs.map (liftE M W))) : PE X (.JoinedStr (v1 :: v2 :: rest) pos) (liftE M W (dJs fs [])) :=
  PEw (pe_joined h) fun σ H Q h => js_lift fs [] σ H Q h
theorem dp_joined1 {e : Expr} {f : DTE} {pos : Pos} (h : PE X e (liftE M W f)) : PE X (.JoinedStr [e] pos) (liftE M W f) := pe_joined1 h
/-! repr where nothing is being shown -/
def showD : D → Option (List Nat)
  | .dct => some [123, 125]
  | x => match py x with
    | some d => if d.showable && !d.hasDict && decide (d.depth ≤ 50) && decide (d.shown.length ≤ 1000) then some d.shown.cps.toList else none
    | none => none
def gRepr : GC := fun xs n q => match xs with | [x] => (match showD x with | some l => q (.str l) n | none => False) | _ => False
theorem S_list (z : Str) : S z.cps.toList = z := by cases z; simp [S]
theorem call_reprG (hg : X.A.guards = some []) (hu : X.A.units + 65 < cLine) : CallR X (.builtin "repr") (fun xs H Q => ∃ v, xs = [v] ∧ ((∃ d, Dp X.K H v d ∧ d.showable = true ∧ d.hasDict = false ∧ d.depth ≤ 50 ∧ d.shown.length ≤ 1000 ∧ Q (.str d.shown) H) ∨ ∃ p, v = .ref p ∧ H p = some (.dK []) ∧ Q (.str "{}") H)) := by
  intro pins s σ H xs us Q I r h
  obtain ⟨v, rfl, h⟩ := h
  cases r with
  | cons rx rr =>
    cases rr
    rename_i u
    rcases h with ⟨d, dp, h1, h2, h3, h4, q⟩ | ⟨p, rfl, hp, q⟩
    · obtain ⟨as, rd⟩ := Dp.reads I d v u dp rx
      cases dp with
      | non =>
        cases (show u = Value.none from rx)
        exact P.repr_of_none ⟨.str _, H, I.tok _, ⟨_, rfl⟩, q⟩
      | bl b =>
        cases (show u = Value.bool b from rx)
        refine P.repr_of_bool ⟨.str _, H, I.tok _, ⟨_, rfl⟩, ?_⟩
        cases b <;> exact q
      | int i =>
        obtain ⟨t, rfl⟩ := (show ∃ t, u = Value.int i t from rx)
        have e : PyData.showable (.int i) = decide (i.natAbs.log2 < 1920) := by rfl
        rw [e] at h1
        exact P.repr_of_int (of_decide_eq_true h1) ⟨.str _, H, I.tok _, ⟨_, rfl⟩, q⟩
      | str z =>
        obtain ⟨t, rfl⟩ := (show ∃ t, u = Value.str z t from rx)
        exact P.repr_of_str ⟨.str _, H, I.tok _, ⟨_, rfl⟩, q⟩ (Nat.le_trans h4 (by decide))
      | lst _ _ =>
        obtain rfl := (show u = Value.ref _ from rx)
        exact repr_of_reads' rd h1 (fun z => by rw [h2] at z; cases z) hg (by omega) (fun _ _ e => e) (fun h' u tk hk => ⟨.str _, H, I.kept hk, ⟨_, rfl⟩, q⟩) (Nat.le_trans h4 (by decide))
      | tup _ _ =>
        obtain rfl := (show u = Value.ref _ from rx)
        exact repr_of_reads' rd h1 (fun z => by rw [h2] at z; cases z) hg (by omega) (fun _ _ e => e) (fun h' u tk hk => ⟨.str _, H, I.kept hk, ⟨_, rfl⟩, q⟩) (Nat.le_trans h4 (by decide))
    · obtain rfl : u = Value.ref p := rx
      have ob : ObjOk X.prog X.w H s.heap p (.dK []) := I.hok p _ hp
      obtain ⟨_, ns, vs, kv, o, es, ep, g1, g2, g3, g4, g5, g6⟩ := ob
      cases kv
      have e0 : es.toList = [] := by
        generalize es.toList = l at g5
        cases g5
        rfl
      have rd : Reads s.heap (.ref p) (.dict []) (p :: ([] : List Addr) ++ []) := .dict g1 g2.1 g3 (by rw [e0]; exact .nil) (by rw [e0]; exact .nil)
      have ed : (PyData.dict []).depth = 1 := by decide
      exact repr_of_reads' rd rfl (fun _ hm => by
        simp only [List.append_nil, List.mem_cons, List.not_mem_nil, or_false] at hm
        rw [← hm] at ns
        simp at ns) hg (by rw [ed]; omega) (fun _ _ e => e) (fun h' u tk hk => ⟨.str _, H, I.kept hk, ⟨_, rfl⟩, q⟩) (by decide)
end
end DL

set_option Elab.async false
set_option linter.all false
set_option maxRecDepth 100000
set_option maxHeartbeats 4000000
set_option autoImplicit false
/-! Promises that hold where nothing is being shown. -/
namespace GdX
open PySem PySem.Spec PyProof.Rows L2
/-- FnOk for callers of which it is known that nothing is being shown -/
structure FnG (P : Program) (w : World) (K : PySem.W.Frag) (mg : Str → Option Value) (base : Heap) (CX : CXT) (k : Nat) (f : Addr) (fd : FuncData) (ps : List Str) (sp : Sp) : Prop where
  len : ∀ vs H Q E, sp vs H Q E → vs.length = ps.length
  run : ∀ (A : Around) (outer : List Env) (s : Shared) (H : Hp) (args : Args) (us : List Value) (vs : List V) (Q : VK) (E : XK), A.guards = some [] → Room k A → Env0 P w K mg base A outer s H → BindsTo s fd args (ps.zip us) → Vals vs us →
    sp vs H Q E → codeAny (model P w) A (.call (.ref f) args) (CR CX outer P w H s Q E) s
theorem FnG.of {P : Program} {w : World} {K : PySem.W.Frag} {mg : Str → Option Value} {base : Heap} {CX : CXT} {k : Nat} {f : Addr} {fd : FuncData} {ps : List Str} {sp : Sp} (F : FnOk P w K mg base CX k f fd ps sp) : FnG P w K mg base CX k f fd ps sp :=
  ⟨F.len, fun A outer s H args us vs Q E _ hr => F.run A outer s H args us vs Q E hr⟩
/-- what is tracked at the law's start: the script, the tables -/
structure Start (s : Shared) (K : PySem.W.Frag) (cs : List (Addr × Addr)) (a : Addr) (H : Hp) : Prop where
  tb : ∀ p ∈ cs, H p.2 = some (.tbl #[])
  sh : ∀ b, H b = none ∨ b ∈ cs.map (·.2) ∨ ∃ o xs, H b = some (.frz o (.lst xs))
  on : ∀ b, H b ≠ none → b = a ∨ b ∈ cs.map (·.2)
  nk : H a ≠ none → K.lookup a = none
section
variable {P : Program} {w : World} {K : PySem.W.Frag} {mg mb : Str → Option Value} {cs : List (Addr × Addr)} {s : Shared} {a : Addr} {vs : List Value} {H : Hp}
/-- an object that is neither a sequence nor an empty record is not tracked -/
theorem Start.no (S : Start s K cs a H) (hT : ∀ p ∈ cs, s.heap.get? p.2 = some { cls := .none, data := .fields #[] }) (ha : s.heap.get? a = some { cls := .type "list", data := .seq vs.toArray }) {b : Addr} {o : Obj} (e : s.heap.get? b = some o)
    (h1 : ∀ ws n, o.data ≠ .seq ws n) (h2 : o.data ≠ .fields #[]) : H b = none := by
  refine Classical.byContradiction fun z => ?_
  cases S.on b z with
  | inl q =>
    subst q
    rw [ha] at e
    cases e
    exact h1 _ _ rfl
  | inr q =>
    obtain ⟨p, hp, rfl⟩ := List.mem_map.mp q
    rw [hT p hp] at e
    cases e
    exact h2 rfl
theorem Start.dict (S : Start s K cs a H) (hT : ∀ p ∈ cs, s.heap.get? p.2 = some { cls := .none, data := .fields #[] }) (ha : s.heap.get? a = some { cls := .type "list", data := .seq vs.toArray }) {b : Addr} {o : Obj} {es : Array DictEntry} {ep : Nat}
    (e : s.heap.get? b = some o) (d : o.data = .dict es ep) : H b = none :=
  S.no hT ha e (fun ws n z => by rw [d] at z; cases z) (fun z => by rw [d] at z; cases z)
theorem Start.ns (S : Start s K cs a H) (hT : ∀ p ∈ cs, s.heap.get? p.2 = some { cls := .none, data := .fields #[] }) (ha : s.heap.get? a = some { cls := .type "list", data := .seq vs.toArray }) {b : Addr} {m : Str → Option Value} (h : s.heap.Ns b m) : (hidT s.heap H).Ns b m := by
  obtain ⟨o, es, ep, e, d, r⟩ := h
  exact ⟨o, es, ep, hidT_get e (S.dict hT ha e d), d, r⟩
theorem Start.kin (S : Start s K cs a H) (nT : ∀ p ∈ cs, K.lookup p.2 = none) (KX : K.In s.heap) : K.In (hidT s.heap H) := by
  intro b o e
  refine hidT_get (KX b o e) (Classical.byContradiction fun z => ?_)
  cases S.on b z with
  | inl q =>
    subst q
    rw [S.nk z] at e
    cases e
  | inr q =>
    obtain ⟨p, hp, rfl⟩ := List.mem_map.mp q
    rw [nT p hp] at e
    cases e
theorem Start.tabs (S : Start s K cs a H) (hT : ∀ p ∈ cs, s.heap.get? p.2 = some { cls := .none, data := .fields #[] }) (ha : s.heap.get? a = some { cls := .type "list", data := .seq vs.toArray }) (hns : s.heap.Ns mainGlobals mg) (C : ∀ p ∈ cs, PySem.W.CodeHd s.heap p.1 p.2)
    (hbm : ∃ (bm : Addr) (ob : Obj), mg "__builtins__" = some (.ref bm) ∧ bm ≠ builtinsNs ∧ s.heap.get? bm = some ob ∧ ob.cls = .type "module" ∧ ob.dict = some builtinsNs ∧ ob.data = .plain) : ∀ p ∈ cs, LamX.TabB (hidT s.heap H) mg p.1 p.2 := by
  intro p hp
  have hTp := hT p hp
  obtain ⟨oG, esG, epG, eG, dG, _⟩ := hns
  constructor
  · obtain ⟨o, us, file, tf, flags, tg, inF, text, tt, e1, r1, r2, r3, r4, r5, r6, r7, r8, hne⟩ := C p hp
    have nb : H p.1 = none := by
      refine S.no hT ha e1 (fun ws n z => ?_) fun z => ?_
      · rw [r2] at z; cases z
      · rw [r2] at z; cases z; simp at r3
    exact ⟨o, us, file, tf, flags, tg, inF, text, tt, hidT_get e1 nb, r1, r2, r3, r4, r5, r6, r7, r8, hne⟩
  · obtain ⟨bm, ob, b1, b2, b3, b4, b5, b6⟩ := hbm
    have nb : H bm = none := by
      refine S.no hT ha b3 (fun ws n z => ?_) fun z => ?_
      · rw [b6] at z; cases z
      · rw [b6] at z; cases z
    refine ⟨bm, ob, b1, b2, fun q => ?_, fun q => ?_, hidT_get b3 nb, b4, b5, b6⟩
    · subst q
      rw [eG] at b3
      cases b3
      rw [dG] at b6
      cases b6
    · subst q
      rw [hTp] at b3
      cases b3
      cases b6
  · intro z
    rw [z, hTp] at eG
    cases eG
    cases dG
/-- the law is called -/
theorem law_call {CX : CXT} {k : Nat} {fa : Addr} {fd : FuncData} {x : Str} {sp : Sp} {ns : List Int} (S : Start s K cs a H) (KX : K.In s.heap) (hns : s.heap.Ns mainGlobals mg) (hb : s.heap.Ns builtinsNs mb) (hbb : ∀ x : Str, x ≠ "__name__" → mb x = bootBuiltins x) (hlim : s.heap.NoLimit)
    (hg : s.gens = #[]) (hT : ∀ p ∈ cs, s.heap.get? p.2 = some { cls := .none, data := .fields #[] }) (nT : ∀ p ∈ cs, K.lookup p.2 = none) (C : ∀ p ∈ cs, PySem.W.CodeHd s.heap p.1 p.2)
    (hbm : ∃ (bm : Addr) (ob : Obj), mg "__builtins__" = some (.ref bm) ∧ bm ≠ builtinsNs ∧ s.heap.get? bm = some ob ∧ ob.cls = .type "module" ∧ ob.dict = some builtinsNs ∧ ob.data = .plain)
    (ha : s.heap.get? a = some { cls := .type "list", data := .seq vs.toArray }) (hok : HOk P w H s.heap) (hS : SqL K H a (ns.map V.int)) (hr : Room k callerA)
    (F : ∀ base : Heap, K.In base → base.Ns mainGlobals mg → (∀ p ∈ cs, LamX.TabB base mg p.1 p.2) → FnG P w K mg base CX k fa fd [x] sp) (hbind : ∀ (s : Shared) (u : Value), BindsTo s fd ⟨[u], []⟩ [(x, u)])
    (hsp : sp [.ref a] H (fun v _ => v = .bl true) fun _ _ _ => False) (hCX : ∀ e s', CX [] H s (fun _ _ _ => False) e s' → False) :
    codeAny (model P w) callerA (.call (.ref fa) ⟨[.ref a], []⟩) (fun r s' => r = .ok (.ret (.bool true)) ∧ OldK s.heap s'.heap ∧ s'.os = s.os ∧ AllBare s'.gens) s := by
  have kb := S.kin nT KX
  have nG := S.ns hT ha hns
  have md : L2.Mod K mg (hidT s.heap H) := by
    obtain ⟨mc, h1, h2⟩ := hlim
    exact ⟨kb, nG, ⟨mb, S.ns hT ha hb, hbb⟩, ⟨mc, S.ns hT ha h1, h2⟩⟩
  have e0 : Env0 P w K mg (hidT s.heap H) callerA [] s H := ⟨rfl, md, fun b o e => of_hidT e, Nat.le_of_eq (hidT_size _ _), trivial, fun b hb => absurd (show b ∈ ([] : List Addr) from hb) (by simp), hok, .of_eq hg⟩
  have go := (F _ kb nG (S.tabs hT ha hns C hbm)).run callerA [] s H ⟨[.ref a], []⟩ [.ref a] [.ref a] _ _ rfl hr e0 (hbind s (.ref a)) (.cons rfl .nil) hsp
  refine codeAny_mono go fun r s' h => ?_
  match r, h with
  | .error e, h => exact (hCX e s' h).elim
  | .ok .next, h => exact h.elim
  | .ok .brk, h => exact h.elim
  | .ok .cont, h => exact h.elim
  | .ok (.ret u), h =>
    obtain ⟨v, H', os, bare, un, hok', rv, q⟩ := h
    obtain rfl : v = .bl true := q
    obtain rfl : u = Value.bool true := rv
    have still : ∀ b o, b ∉ cs.map (·.2) → s.heap.get? b = some o → s'.heap.get? b = some o := by
      intro b o nb e
      rcases S.sh b with z | z | ⟨ob, xs, z⟩
      · exact un.keep b o e z (fun z => absurd (show b ∈ ([] : List Addr) from z) (by simp)) (by simp)
      · exact (nb z).elim
      · obtain ⟨e1, _⟩ := hok b _ z
        obtain ⟨e2, _⟩ := hok' b _ (un.frzs b ob _ z)
        rw [e] at e1
        cases e1
        exact e2
    have more : ∀ p ∈ cs, ∃ ms : Array Value, s'.heap.get? p.2 = some { cls := .none, data := .fields ms } := by
      intro p hp
      obtain ⟨ms, z⟩ := un.tbls p.2 #[] (S.tb p hp)
      exact ⟨_, hok' p.2 _ z⟩
    have old : OldK s.heap s'.heap := by
      constructor
      · intro b o e
        by_cases hb : b ∈ cs.map (·.2)
        · obtain ⟨p, hp, rfl⟩ := List.mem_map.mp hb
          obtain ⟨ms, hm⟩ := more p hp
          rw [hT p hp] at e
          cases e
          exact .inr (.inl ⟨((C p hp).tab (hT p hp)).isCodeTable, rfl, #[], ms, rfl, by simpa using hm⟩)
        · exact .inl (still b o hb e)
      · intro b o e
        by_cases hb : b ∈ cs.map (·.2)
        · obtain ⟨p, hp, rfl⟩ := List.mem_map.mp hb
          obtain ⟨ms, hm⟩ := more p hp
          exact ⟨_, hm⟩
        · exact ⟨o, still b o hb e⟩
    exact ⟨rfl, old, os, bare⟩
/-- what is known of the law's promise at the head's heap h -/
def LawAtG (l : PySem.W.OpenLaw) (w : World) (K : PySem.W.Frag) (CX : CXT) (k n : Nat) (x : Str) (mg : Str → Option Value) (fa : Addr) (h : Heap) : Prop :=
  ∃ (fd : FuncData) (cs : List (Addr × Addr)) (sp : Sp), (∀ p ∈ cs, h.get? p.2 = some { cls := .none, data := .fields #[] }) ∧ (∀ p ∈ cs, K.lookup p.2 = none) ∧ (∀ p ∈ cs, PySem.W.CodeHd h p.1 p.2) ∧ (∀ (s : Shared) (u : Value), BindsTo s fd ⟨[u], []⟩ [(x, u)]) ∧
    (∀ (H : Hp) (a : Addr) (ns : List Int), ns.length ≤ n → (∀ z ∈ ns, Builtin.Int.intBits z ≤ 1048576) → (∀ p ∈ cs, H p.2 = some (.tbl #[])) → SqL K H a (ns.map V.int) → sp [.ref a] H (fun v _ => v = .bl true) fun _ _ _ => False) ∧
    ∀ base : Heap, K.In base → base.Ns mainGlobals mg → (∀ p ∈ cs, LamX.TabB base mg p.1 p.2) → FnG l.prog w K mg base CX k fa fd [x] sp
/-- the script is tracked as a list that stays, if it is no written one -/
def startH (K : PySem.W.Frag) (cs : List (Addr × Addr)) (a : Addr) (vs : List Value) (ns : List Int) : Hp := fun b =>
  if b ∈ cs.map (·.2) then some (.tbl #[]) else if b = a then (match K.lookup a with | some _ => none | none => some (.frz { cls := .type "list", data := .seq vs.toArray } (.lst (ns.map V.int)))) else none
theorem walk_ofG {l : PySem.W.OpenLaw} {n k : Nat} {q : Program} {loose : List Str} {XP : (Str → Option Value) → Heap → Prop} {YP : World → Heap → Prop} {d : DefRec} {K : Params → PySem.W.Frag} {CX : World → CXT} {x : Str}
    (hn : l.most = some n) (hn2 : n ≤ sizeLine) (hdf : d.params.defaults = []) (hr : Room k callerA) (hY : ∀ (w : World) (h : Heap), YP w h → (K w.params).In h)
    (F : ∀ (w : World) (mg : Str → Option Value) (fa : Addr) (h : Heap), YP w h → (K w.params).In h → h.Ns mainGlobals mg → mg d.name = some (.ref fa) → LawAtG l w (K w.params) (CX w) k n x mg fa h)
    (hCX : ∀ (w : World) (H : Hp) (s : Shared) (e : Value) (s' : Shared), CX w [] H s (fun _ _ _ => False) e s' → False) : PySem.W.WalkO q loose XP YP l.row.toRowW d [] (fun f vs => PySem.call f vs) := by
  refine Att.attach_callB hn hdf fun w s₀ s₁ mg mb fa o pm cd doc a vs ns G Y ho hd hcd hmg hobj hints hlen hbits hg => ?_
  have KX := hY w _ Y
  obtain ⟨fd, cs, sp, hT, nT, C, hb, hsp, hF⟩ := F w mg fa _ Y KX G.T.g hmg
  have rv := vals_ints hints
  have lenV := hints.length
  have hl : ns.length ≤ sizeLine := Nat.le_trans hlen hn2
  let H : Hp := startH (K w.params) cs a vs ns
  have ob : ∀ p ∈ cs, p.2 ≠ a := by
    intro p hp z
    have e := hT p hp
    rw [z, hobj] at e
    cases e
  have at1 : ∀ p ∈ cs, H p.2 = some (.tbl #[]) := fun p hp => if_pos (List.mem_map.mpr ⟨p, hp, rfl⟩)
  have aT : a ∉ cs.map (·.2) := by
    intro z
    obtain ⟨p, hp, e⟩ := List.mem_map.mp z
    exact ob p hp e
  have atA : H a = (match (K w.params).lookup a with | some _ => none | none => some (.frz { cls := .type "list", data := .seq vs.toArray } (.lst (ns.map V.int)))) := by
    show startH _ _ _ _ _ a = _
    unfold startH
    rw [if_neg aT, if_pos rfl]
  have atO : ∀ b, b ∉ cs.map (·.2) → b ≠ a → H b = none := by
    intro b h1 h2
    show startH _ _ _ _ _ b = _
    unfold startH
    rw [if_neg h1, if_neg h2]
  have S : Start s₁ (K w.params) cs a H := by
    refine ⟨at1, fun b => ?_, fun b hb => ?_, fun z => ?_⟩
    · by_cases h1 : b ∈ cs.map (·.2)
      · exact .inr (.inl h1)
      · by_cases h2 : b = a
        · subst h2
          rw [atA]
          cases (K w.params).lookup b with
          | some _ => exact .inl rfl
          | none => exact .inr (.inr ⟨_, _, rfl⟩)
        · exact .inl (atO b h1 h2)
    · by_cases h1 : b ∈ cs.map (·.2)
      · exact .inr h1
      · by_cases h2 : b = a
        · exact .inl h2
        · exact (hb (atO b h1 h2)).elim
    · rw [atA] at z
      cases e : (K w.params).lookup a with
      | none => rfl
      | some _ => rw [e] at z; exact (z rfl).elim
  have sq : SqL (K w.params) H a (ns.map V.int) := by
    cases e : (K w.params).lookup a with
    | some o =>
      have z := KX a o e
      rw [hobj] at z
      cases z
      exact .inr ⟨_, vs.toArray, _, e, rfl, rfl, rfl, by rw [List.size_toArray, lenV]; exact hl, by simpa using rv⟩
    | none =>
      rw [e] at atA
      exact .inl (.inr ⟨_, atA⟩)
  have ok : HOk l.prog w H s₁.heap := by
    intro b u z
    by_cases h1 : b ∈ cs.map (·.2)
    · obtain ⟨p, hp, rfl⟩ := List.mem_map.mp h1
      rw [at1 p hp] at z
      cases z
      exact hT p hp
    · by_cases h2 : b = a
      · subst h2
        rw [atA] at z
        cases e : (K w.params).lookup b with
        | some _ => rw [e] at z; cases z
        | none =>
          rw [e] at z
          cases z
          exact ⟨hobj, by rw [List.length_map]; exact hl, vs, _, rv, hobj⟩
      · rw [atO b h1 h2] at z
        cases z
  exact law_call S KX G.T.g G.T.b G.T.builtins G.T.nolimit hg hT nT C G.T.bmain hobj ok sq hr hF hb (hsp H a ns hlen hbits at1 sq) fun e s' => hCX w H s₁ e s'
end
end GdX

set_option Elab.async false
set_option linter.all false
set_option maxRecDepth 100000
set_option maxHeartbeats 4000000
set_option autoImplicit false
/-! .. over trees: defs that show values; repr. -/
namespace GdX
open PySem PySem.Spec PyProof.Rows L2
section
variable {X : Cx} {k : Nat} {f : Addr} {fd : FuncData} {ps : List Str} {sp : Sp} {pins : List (Addr × Obj)} {σ : L2.St} {H : Hp} {s : Shared} {E : XK}
theorem below {Q : VK} {us : List Value} {vs : List V} (F : FnG X.prog X.w X.K X.mg X.base (L2.CX X.prog X.w) k f fd ps sp) (b : Binds X.K fd ps []) (hg : X.A.guards = some []) (hr : Room k X.A) (hx : PassesAt (L2.CX X.prog X.w) X σ E) (I : Inv X pins σ H s) (r : Vals vs us) (h : sp vs H Q E) :
    wpAny (model X.prog X.w) X.A (call (.ref f) us) (EP X pins σ Q) X.xe s := by
  have l := F.len _ _ _ _ h
  have bt : BindsTo s fd ⟨us, []⟩ (ps.zip us) := by
    have z := b s us I.kIn (by rw [List.append_nil, ← r.length]; exact l)
    rw [List.append_nil] at z
    exact z
  refine wpAny_call (codeAny_mono (F.run X.A X.stack s H ⟨us, []⟩ us vs Q E hg hr I.env0 bt r h) fun t s' q => ?_)
  match t, q with
  | .error e, q => exact hx pins H s e s' I q
  | .ok (.ret u), q => exact I.after q
  | .ok .next, q => exact q.elim
  | .ok .brk, q => exact q.elim
  | .ok .cont, q => exact q.elim
theorem pe_call {x : Str} {p pos : Pos} {e : Expr} {es : List Expr} {E : L2.St → XK} {t : TA} (F : FnG X.prog X.w X.K X.mg X.base (L2.CX X.prog X.w) k f fd ps sp) (hgd : X.A.guards = some []) (hr : Room k X.A) (hg : Gl X x) (hm : X.mg x = some (.ref f)) (kp : PySem.W.keepIn X.K (.ref f) = true)
    (b : Binds X.K fd ps []) (hx : ∀ σ, PassesAt (L2.CX X.prog X.w) X σ (E σ)) (ha : PA X (e :: es) t) (hdb : (x == ("__debug__" : Str)) = false := by decide) (he : starEach (e :: es) X.env = (false, eval e X.env) :: starEach es X.env := by exact DL.starEach_cons rfl) (hpl : (backTo pos (starEach es X.env)).any (·.1) = false := by rfl) :
    PE X (.Call (.Name x p) (e :: es) [] pos) (fun σ H Q => t σ H fun vs H1 => sp vs H1 Q (E σ)) := by
  constructor
  intro pins s σ H Q I h
  refine wpAny_Call_Name_kw (ld_glob I hg hm (PySem.W.callWith_K (h₀ := X.base) I.ok.mod.kin kp (thn (ha.run pos pins s σ H _ I h) fun us s1 ⟨vs, H1, I1, r, q⟩ => ⟨I1.kIn, ?_⟩) he hpl) hdb)
  exact below F b hgd hr (hx σ) I1 r q
end
end GdX
namespace DL
open PySem PySem.Spec PyProof.Rows L2
/-- a def that holds its promise where nothing is being shown -/
structure CalG (P : Program) (w : World) (K : PySem.W.Frag) (mg : Str → Option Value) (base : Heap) (M : LK) (k : Nat) (x : Str) (ps : List Str) (s : DSp) : Prop where
  ex : ∃ f fd, GdX.FnG P w K mg base (L2.CX P w) k f fd ps (lift M ps.length s) ∧ mg x = some (.ref f) ∧ PySem.W.keepIn K (.ref f) = true ∧ Binds K fd ps []
theorem CalG.of {P : Program} {w : World} {K : PySem.W.Frag} {mg : Str → Option Value} {base : Heap} {M : LK} {k : Nat} {x : Str} {ps : List Str} {s : DSp} (c : CalD P w K mg base M k x ps s) : CalG P w K mg base M k x ps s := by
  obtain ⟨f, fd, F, h⟩ := c.ex
  exact ⟨f, fd, .of F, h⟩
theorem CalG.ofC {P : Program} {w : World} {mg : Str → Option Value} {base : Heap} {M : LK} {x : Str} {st : Stmt} {N ps : List Str} {k : Nat} {s : DSp} {c : Addr} (Df : DefC M.L.K mg x st ps c) (S : FnScope N ps (defScope st)) (t : List (Str × Addr) → DTS)
    (hb : ∀ (f : Addr) (A : Around) (outer : List Env) (s0 : Shared) (H : Hp) (E : XK), A.guards = some [] → Room k (A.deeper (envOfC x (defScope st) s0.heap.objs.size f (.ref c))) →
      PSs (cxOf (L2.CX P w) P w M.L.K mg base N x (defScope st) f (.ref c) A outer s0 H E) (defBody st) (liftS M (fun cls d _ H' => E cls d H') (t (envOfC x (defScope st) s0.heap.objs.size f (.ref c)).cells)))
    (hs : ∀ fr ds n q e, ds.length = ps.length → s ds n q e → t fr { nx := fun _ n' => q .non n', rt := q, ex := fun _ => e } (startD N ds) n) : CalG P w M.L.K mg base M (k + 1) x ps s := by
  obtain ⟨f, oc, od, an, osl, dV, kV, doc, pm, ct, lk, hcd, hm, kp, b⟩ := Df.ex
  refine ⟨f, _, ⟨fun vs H Q E h => lift_len h, fun A outer s H args us vs Q E hg hr e0 hbd hv hsp => ?_⟩, hm, kp, b⟩
  refine LamX.run_ofS lk hcd S hr e0 hbd hv (lift_len hsp) fun hr' => ⟨_, hb f A outer s H E hg hr', ?_⟩
  obtain ⟨pn, G, n, ds, q, e, R, hi, hk, hsp, hQ, hE⟩ := hsp
  refine ⟨pn, G, n, _, _, R.start hi, hs _ ds n q e hk hsp, ⟨fun G' σ' δ' n' H' A' R' h' => hQ G' .non .non n' H' A' R'.bare (by simp only [Is]) h', fun G' σ' δ' v d n' H' A' R' i' h' => hQ G' v d n' H' A' R'.bare i' h', fun G' σ' δ' n' H' A' R' h' => h'.elim, fun G' σ' δ' n' H' A' R' h' => h'.elim,
    fun G' σ' δ' C a ns xs n' H' A' R' x' h' => hE G' C a ns xs n' H' A' R'.bare x' h'⟩⟩
section
variable {X : Cx} {M : LK} {W : WX} {x : Str} {p pos : Pos} {e : Expr} {es : List Expr} {f : DTA} {k j : Nat} {ps : List Str} {s : DSp}
theorem dp_calG {m : Nat} (c : CalG X.prog X.w X.K X.mg X.base M k x ps s) (hgd : X.A.guards = some []) (hr : Room j X.A) (hkj : k ≤ j) (tk : Takes X W) (hg : Gl X x) (ha : PA X (e :: es) (liftA M W f)) (hm : ps.length = m := by rfl) (hdb : (x == ("__debug__" : Str)) = false := by decide)
    (he : starEach (e :: es) X.env = (false, eval e X.env) :: starEach es X.env := by exact starEach_cons rfl) (hpl : (backTo pos (starEach es X.env)).any (·.1) = false := by rfl) : PE X (.Call (.Name x p) (e :: es) [] pos) (liftE M W (dCal m s f)) := by
  subst hm
  obtain ⟨g, fd, F, hm, kp, b⟩ := c.ex
  refine PEw (GdX.pe_call F hgd (hr.mono hkj) hg hm kp b (fun σ => passAt tk σ) ha hdb he hpl) fun σ H Q h => ?_
  obtain ⟨pn, G, n, δ, q, e, R, hf, hQ, hX⟩ := h
  refine ⟨pn, G, n, δ, _, e, R, hf, fun G1 vs ds n1 H1 A1 R1 i1 h1 => ?_, hX⟩
  exact ⟨pn, G1, n1, ds, q, e δ, R1.bare, i1, h1.1, h1.2, fun G2 v d n2 H2 A2 R2 i2 h2 => hQ G2 v d n2 H2 (R.tr A1 A2) (R1.back R2 A2) i2 h2, fun G2 C a ns xs n2 H2 A2 R2 x2 h2 => hX G2 C a ns xs n2 H2 (R.tr A1 A2) (R1.back R2 A2) x2 h2⟩
theorem drc_repr (hK : X.K = M.L.K) : DRC M (fun xs H Q => ∃ v, xs = [v] ∧ ((∃ d, Dp X.K H v d ∧ d.showable = true ∧ d.hasDict = false ∧ d.depth ≤ 50 ∧ d.shown.length ≤ 1000 ∧ Q (.str d.shown) H) ∨ ∃ p, v = .ref p ∧ H p = some (.dK []) ∧ Q (.str "{}") H)) gRepr := by
  intro pn G n σ δ H vs xs q Q R iv h k
  unfold gRepr at h
  split at h
  · rename_i x
    obtain ⟨v, rfl, iw⟩ := iv.one
    refine ⟨v, rfl, ?_⟩
    split at h
    · rename_i l hl
      by_cases hx : x = .dct
      · subst hx
        simp only [showD, Option.some.injEq] at hl
        subst hl
        simp only [Is] at iw
        obtain ⟨p, rfl, g1⟩ := iw
        exact .inr ⟨p, rfl, R.ex _ _ g1, k G _ (.str [123, 125]) n H Adv.refl R (by simp only [Is]; decide +kernel) h⟩
      · have e0 : showD x = match py x with
          | some d => if d.showable && !d.hasDict && decide (d.depth ≤ 50) && decide (d.shown.length ≤ 1000) then some d.shown.cps.toList else none
          | none => none := by
          cases x <;> first | rfl | exact (hx rfl).elim
        rw [e0] at hl
        cases e1 : py x with
        | none => rw [e1] at hl; cases hl
        | some d =>
          rw [e1] at hl
          simp only at hl
          split at hl
          · rename_i hc
            simp only [Bool.and_eq_true, Bool.not_eq_true', decide_eq_true_eq] at hc
            cases hl
            exact .inl ⟨d, hK ▸ py_dp R.ex x v d iw e1, hc.1.1.1, hc.1.1.2, hc.1.2, hc.2, k G _ _ n H Adv.refl R (by simp only [Is]) h⟩
          · cases hl
    · exact h.elim
  · exact h.elim
end
end DL

set_option Elab.async false
set_option linter.all false
set_option maxRecDepth 100000
set_option maxHeartbeats 4000000
set_option autoImplicit false
/-! The pen's numbers as targets; a pen that is never empty. -/
namespace DL
open PySem PySem.Spec PyProof.Rows L2
section
variable {X : Cx} {M : LK} {W : WX}
def dgPutA (fo : DTE) : DTG := fun d δ n q => fo δ n (fun x n1 => match x, d with | .pen, .int a => (0 ≤ a ∧ a ≤ n1.at_ + 1) ∧ q δ ⟨n1.at_ + 1, n1.mu⟩ | _, _ => False) noX
def dgPutL (fo : DTE) : DTG := fun d δ n q => fo δ n (fun x n1 => match x, d with | .pen, .int l => 0 ≤ l ∧ q δ n1 | _, _ => False) noX
theorem dg_puta {o i : Expr} {pos : Pos} {fo : DTE} {vs : List Nat} (K : KeysOk M) (h : PG X (.Subscript o i pos) (L2.gSub (liftE M W fo) (tC (.str M.ka)) rSetD)) : PG X (.Subscript o i pos) (liftG M vs (dgPutA fo)) :=
  PGw h fun v σ H Q ⟨pn, G, n, δ, d, q, R, hi, hg, hQ⟩ => by
    refine ⟨pn, G, n, δ, _, noX, R, hg, fun G1 w x n1 H1 A1 R1 i1 h1 => ?_, XEnd.no noX_no⟩
    split at h1
    · rename_i a
      simp only [Is] at i1 hi
      subst i1; subst hi
      obtain ⟨la, ns, a0, l, g1, g2, g3, g4, g5, g6, rfl⟩ := R1.pen.ob
      have e := R1.pe
      subst e
      obtain ⟨R3, A3⟩ := R1.pen_put (m := n1.at_ + 1) g1 (a' := a) (by simpa using h1.1) g6
      exact ⟨_, _, rfl, .inl ⟨_, .inr M.ka, g1, rfl, (by show 3 < sizeLine; decide), by rw [putK_a K]⟩, hQ _ σ δ _ _ (R.tr A1 A3) R3 rfl h1.2⟩
    · exact h1.elim
theorem dg_putl {o i : Expr} {pos : Pos} {fo : DTE} {vs : List Nat} (K : KeysOk M) (h : PG X (.Subscript o i pos) (L2.gSub (liftE M W fo) (tC (.str M.kl)) rSetD)) : PG X (.Subscript o i pos) (liftG M vs (dgPutL fo)) :=
  PGw h fun v σ H Q ⟨pn, G, n, δ, d, q, R, hi, hg, hQ⟩ => by
    refine ⟨pn, G, n, δ, _, noX, R, hg, fun G1 w x n1 H1 A1 R1 i1 h1 => ?_, XEnd.no noX_no⟩
    split at h1
    · rename_i l'
      simp only [Is] at i1 hi
      subst i1; subst hi
      obtain ⟨la, ns, a0, l, g1, g2, g3, g4, g5, g6, rfl⟩ := R1.pen.ob
      have e := R1.pe
      subst e
      obtain ⟨R3, A3⟩ := R1.pen_put (m := n1.at_) g1 (a' := a0) ⟨g4, g5⟩ h1.1
      exact ⟨_, _, rfl, .inl ⟨_, .inr M.kl, g1, rfl, (by show 3 < sizeLine; decide), by rw [putK_l K]⟩, hQ _ σ δ _ _ (R.tr A1 A3) R3 rfl h1.2⟩
    · exact h1.elim
end
/-! ### a pen of list(script[:63]) + [0] * int(len(script) == 0) -/
def cellsOf (ns : List Int) : List Int := if ns = [] then [0] else ns
theorem cells_pos (ns : List Int) : cellsOf ns ≠ [] := by
  unfold cellsOf
  split
  · simp
  · assumption
theorem cells_len {ns : List Int} (h : ns.length ≤ 63) : (cellsOf ns).length ≤ 63 := by
  unfold cellsOf
  split
  · decide
  · exact h
/-- the pen is new, and so is its list; all else is as before -/
def spPen2 (K : PySem.W.Frag) (ka kl : Str) : Sp := fun vs H Q _ => ∃ (a : Addr) (ns : List Int), vs = [.ref a] ∧ SqL K H a (ns.map V.int) ∧ ns.length ≤ 63 ∧
  ∀ (p la : Addr) (H1 : Hp), H p = none → H la = none → la ≠ p → (∀ b o, H b = some o → H1 b = some o) → H1 la = some (.lst ((cellsOf ns).map V.int)) → (∃ kvs, H1 p = some (.dK kvs)) → Q (.ref p) (upd H1 p (.dK (penKV ka kl la 0 0)))
abbrev rListC (K : PySem.W.Frag) : List V → Hp → VK → Prop := fun xs H Q => ∃ p ys, xs = [.ref p] ∧ (SqL K H p ys ∨ SqT K H p ys) ∧ ∀ l, H l = none → Q (.ref l) (upd H l (.lst ys))
abbrev rLenC (K : PySem.W.Frag) : List V → Hp → VK → Prop := fun xs H Q => ∃ x n, xs = [x] ∧ LenV K x H n ∧ Q (.int (n : Nat)) H
abbrev rIntC : List V → Hp → VK → Prop := fun xs H Q => (∃ i, xs = [.int i] ∧ Q (.int i) H) ∨ ∃ k : Bool, xs = [.bl k] ∧ Q (.int (if k then 1 else 0)) H
def tPen2 (K : PySem.W.Frag) (ka kl : Str) : TS := tRet (tDisp [(tC (.str "cells"), tOp rCat (tCB (rListC K) (tCons (tSl (rSlL K) (tVar 0) tNoPart (tPart (tC (.int 63)))) tNil)) (tOp rRep (tLst (tCons (tC (.int 0)) tNil)) (tCB rIntC (tCons (tOp rEq (tCB (rLenC K) (tCons (tVar 0) tNil)) (tC (.int 0))) tNil)))),
  (tC (.str ka), tC (.int 0)), (tC (.str kl), tC (.int 0))])
theorem pen_pure2 {K : PySem.W.Frag} {ka kl x : Str} (h1 : ka ≠ "cells") (h2 : kl ≠ "cells") (h3 : kl ≠ ka) (vs : List V) (H : Hp) (Q : VK) (E : XK) (h : spPen2 K ka kl vs H Q E) : tPen2 K ka kl { nx := fun _ H' => Q .non H', rt := Q } (L2.start [x] vs) H := by
  obtain ⟨a, ns, rfl, hS, hl, hq⟩ := h
  have hcut : cutV (ns.map V.int) none (some 63) = ns.map V.int := by
    unfold cutV
    have : HT.sIx (ns.map V.int).length (ns.map V.int).length (some 63) = (ns.map V.int).length := by
      have := HT.sIx_nat (ns.map V.int).length (ns.map V.int).length 63
      rw [show ((63 : Nat) : Int) = 63 from rfl] at this
      rw [this, List.length_map]
      omega
    rw [this, HT.sIx_none, List.drop_zero, Nat.sub_zero, List.take_length]
  intro p hp
  refine ⟨.ref a, rfl, 63, rfl, a, ns.map V.int, rfl, Ext.seqL (Ext.new hp) hS, fun sl hsl => ?_⟩
  obtain ⟨n1, hsl'⟩ := none_upd hsl
  rw [hcut]
  refine ⟨sl, ns.map V.int, rfl, .inl (SqL.of upd_same), fun l1 hl1 => ?_⟩
  have E1 : ∀ b o, H b = some o → upd (upd H p (.dK [])) sl (.lst (ns.map V.int)) b = some o := fun b o e => by
    rw [upd_ne (ne_of_none (by rw [upd_ne (ne_of_none e hp)]; exact e) hsl), upd_ne (ne_of_none e hp)]
    exact e
  have E2 : ∀ b o, H b = some o → upd (upd (upd H p (.dK [])) sl (.lst (ns.map V.int))) l1 (.lst (ns.map V.int)) b = some o := fun b o e => by
    rw [upd_ne (ne_of_none (E1 b o e) hl1)]
    exact E1 b o e
  have hl1' : H l1 = none := (none_upd (none_upd hl1).2).2
  have l1p : l1 ≠ p := (none_upd (none_upd hl1).2).1
  let Ha : Hp := upd (upd (upd H p (.dK [])) sl (.lst (ns.map V.int))) l1 (.lst (ns.map V.int))
  have aL : Ha l1 = some (.lst (ns.map V.int)) := upd_same
  have aP : Ha p = some (.dK []) := by
    show upd (upd (upd H p (.dK [])) sl _) l1 _ p = _
    rw [upd_ne (Ne.symm l1p), upd_ne (Ne.symm n1), upd_same]
  refine ⟨by show 1 ≤ sizeLine; decide, fun z hz => ?_⟩
  have Ez : ∀ b o, Ha b = some o → upd Ha z (.lst [V.int 0]) b = some o := fun b o e => by
    rw [upd_ne (ne_of_none e hz)]
    exact e
  refine ⟨.ref a, rfl, .ref a, ns.length, rfl, .inl ⟨_, Ext.seqL (fun b o e => Ez b o (E2 b o e)) hS, by rw [List.length_map]⟩, rfl, .inr ⟨_, rfl, ?_⟩⟩
  generalize hk : (if decide (V.int (ns.length : Nat) = V.int 0) = true then (1 : Int) else 0) = m
  have hm : m = if ns = [] then 1 else 0 := by
    rw [← hk]
    cases ns <;> simp
    intro q
    omega
  have m0 : -(2 ^ 63) ≤ m ∧ m < 2 ^ 63 := by rw [hm]; split <;> decide
  refine ⟨z, m, [V.int 0], rfl, rfl, upd_same, m0.1, m0.2, ?_, fun zz hzz => ?_⟩
  · rw [hm]
    split <;> decide
  generalize hys : (List.replicate m.toNat [V.int 0]).flatten = ys
  have hcat : ns.map V.int ++ ys = (cellsOf ns).map V.int := by
    rw [← hys, hm]
    unfold cellsOf
    split
    · rename_i q
      subst q
      rfl
    · show _ ++ [] = _
      rw [List.append_nil]
  have Ezz : ∀ b o, Ha b = some o → upd (upd Ha z (.lst [V.int 0])) zz (.lst ys) b = some o := fun b o e => by
    rw [upd_ne (ne_of_none (Ez b o e) hzz)]
    exact Ez b o e
  refine ⟨l1, zz, ns.map V.int, ys, rfl, rfl, Ezz _ _ aL, upd_same, ?_, fun la hla => ?_⟩
  · have e : (ns.map V.int).length + ys.length = (cellsOf ns).length := by
      have := congrArg List.length hcat
      rw [List.length_append, List.length_map (as := cellsOf ns)] at this
      exact this
    rw [e]
    exact Nat.le_trans (cells_len hl) (by decide)
  rw [hcat]
  have El : ∀ b o, Ha b = some o → upd (upd (upd Ha z (.lst [V.int 0])) zz (.lst ys)) la (.lst ((cellsOf ns).map V.int)) b = some o := fun b o e => by
    rw [upd_ne (ne_of_none (Ezz b o e) hla)]
    exact Ezz b o e
  have nla : Ha la = none := by
    cases q : Ha la with
    | none => rfl
    | some o => rw [Ezz _ _ q] at hla; cases hla
  have lap : la ≠ p := fun q => by rw [q, aP] at nla; cases nla
  have hnl : H la = none := by
    cases q : H la with
    | none => rfl
    | some o => exact absurd ((E2 _ _ q).symm.trans nla) (by simp)
  refine ⟨El _ _ aP, penKV ka kl la 0 0, rfl, (by show 3 ≤ 15; decide), ?_⟩
  rw [merge3 h1 h2 h3]
  exact hq p la _ hp hnl lap (fun b o e => El b o (E2 b o e)) upd_same ⟨_, El _ _ aP⟩
theorem Rep.first2 {K : PySem.W.Frag} {T : List (Addr × Str)} {ka kl : Str} {m : Nat} {H H1 : Hp} {a p la : Addr} {ns : List Int} (hT : ∀ q ∈ T, H q.1 = some (.tbl #[])) (hl : ns.length ≤ 63) (hp : H p = none) (hla : H la = none) (n2 : la ≠ p) (he : ∀ b o, H b = some o → H1 b = some o) (hL : H1 la = some (.lst (ns.map V.int))) :
    Rep (MK K T ka kl p ns) p (upd (fun _ => none) la (.lst (ns.map V.int))) ⟨0, fun _ => none⟩ (some (.ref a) :: some (.ref p) :: List.replicate m none) (none :: some .pen :: List.replicate m none) (upd H1 p (.dK (penKV ka kl la 0 0))) := by
  refine ⟨fun b o e => ?_, ⟨⟨la, ns, 0, 0, upd_same, upd_same, hl, by decide, by decide, by decide, rfl⟩, ?_⟩, fun q hq => ?_, fun b o e => ?_, rfl, (fun a o e => by cases e), ⟨by simp, fun i d e => ?_⟩⟩
  · by_cases z : b = la
    · rw [z, upd_same] at e
      rw [z, upd_ne n2]
      cases e
      exact hL
    · rw [upd_ne z] at e
      cases e
  · rw [upd_ne (Ne.symm n2)]
  · have h0 := hT q hq
    exact LamX.TabS.nil (by rw [upd_ne (ne_of_none h0 hp)]; exact he _ _ h0)
  · by_cases z : b = la
    · rw [z, upd_same] at e
      cases e
      exact notTbl_lst
    · rw [upd_ne z] at e
      cases e
  · match i with
    | 0 => simp at e
    | 1 =>
      simp at e
      subst e
      exact ⟨.ref p, rfl, by simp only [Is]⟩
    | i + 2 =>
      simp [List.getElem?_replicate] at e
theorem law_pure2 {K : PySem.W.Frag} {T : List (Addr × Str)} {ka kl : Str} {W : WX} {WS : L2.St → XK} {N : List Str} {m : Nat} {t : List Int → DTS} (hN : N.length = m + 2) (ht : ∀ cs : List Int, cs.length ≤ 63 → cs ≠ [] → t cs { nx := fun _ _ => False, rt := fun d _ => d = .bl true } (none :: some .pen :: List.replicate m none) ⟨0, fun _ => none⟩)
    (vs : List V) (H : Hp) (Q : VK) (E : XK) (h : spLaw K T vs H Q E) : tSeq (tAsg (tCallSD (spPen2 K ka kl) [] WS (tCons (tVar 0) tNil)) (gName 1)) (tLaw K T ka kl W t) { nx := fun _ H' => Q .non H', rt := Q } (L2.start N vs) H := by
  obtain ⟨a, ns, rfl, hl, hT, hS, hq⟩ := h
  have e0 : L2.start N [.ref a] = some (.ref a) :: none :: List.replicate m none := by
    unfold L2.start
    rw [hN]
    rfl
  rw [e0]
  refine ⟨.ref a, rfl, a, ns, rfl, hS, hl, fun p la H1 hp hla n2 he hL hP => ?_⟩
  have R0 := Rep.first2 (K := K) (ka := ka) (kl := kl) (m := m) (a := a) hT (cells_len hl) hp hla n2 he hL
  refine ⟨p, cellsOf ns, p, _, ⟨0, fun _ => none⟩, _, _, R0, ht _ (cells_len hl) (cells_pos ns), ⟨fun _ _ _ _ _ _ _ h => h.elim, fun G' σ' δ' v d n' H' A' R' i' h' => ?_, fun _ _ _ _ _ _ _ h => h.elim, fun _ _ _ _ _ _ _ h => h.elim, fun _ _ _ _ _ _ _ _ _ _ _ _ h => h.elim⟩⟩
  subst h'
  simp only [Is] at i'
  subst i'
  exact hq _
end DL

set_option Elab.async false
set_option linter.all false
set_option maxRecDepth 100000
set_option maxHeartbeats 8000000
set_option autoImplicit false
/-! readings as equations, for simp. -/
namespace DL
open PySem PySem.Spec PyProof.Rows L2
section
theorem atI_nat {α : Type} {xs : List α} {j : Nat} (h : j < xs.length) : L2.atI xs (j : Int) = some xs[j] := by
  unfold L2.atI L2.ixN
  rw [if_pos (by omega), if_pos (by omega)]
  simp [h]
theorem at0 {α : Type} (c : α) (r : List α) : L2.atI (c :: r) 0 = some c := atI_nat (xs := c :: r) (j := 0) (by simp)
theorem at1 {α : Type} (b c : α) (r : List α) : L2.atI (b :: c :: r) 1 = some c := atI_nat (xs := b :: c :: r) (j := 1) (by simp)
theorem at2 {α : Type} (a b c : α) (r : List α) : L2.atI (a :: b :: c :: r) 2 = some c := atI_nat (xs := a :: b :: c :: r) (j := 2) (by simp)
theorem at3 {α : Type} (a b c d : α) (r : List α) : L2.atI (a :: b :: c :: d :: r) 3 = some d := atI_nat (xs := a :: b :: c :: d :: r) (j := 3) (by simp)
theorem at4 {α : Type} (a b c d e : α) (r : List α) : L2.atI (a :: b :: c :: d :: e :: r) 4 = some e := atI_nat (xs := a :: b :: c :: d :: e :: r) (j := 4) (by simp)
variable {n : NS} {q : D → NS → Prop} {x y z u v : D} {xs : List D}
theorem ex_eq {α : Type} {a : α} {o : Option α} {p : α → Prop} (h : o = some a) : (∃ d, o = some d ∧ p d) = p a := propext ⟨fun ⟨d, h1, h2⟩ => by rw [h] at h1; cases h1; exact h2, fun k => ⟨a, h, k⟩⟩
theorem gIx0 : gIx (.tup (x :: xs)) (.int 0) n q = q x n := ex_eq (at0 _ _)
theorem gIx1 : gIx (.tup (x :: y :: xs)) (.int 1) n q = q y n := ex_eq (at1 _ _ _)
theorem gIx2 : gIx (.tup (x :: y :: z :: xs)) (.int 2) n q = q z n := ex_eq (at2 _ _ _ _)
theorem gIx3 : gIx (.tup (x :: y :: z :: u :: xs)) (.int 3) n q = q u n := ex_eq (at3 _ _ _ _ _)
theorem gIx4 : gIx (.tup (x :: y :: z :: u :: v :: xs)) (.int 4) n q = q v n := ex_eq (at4 _ _ _ _ _ _)
theorem lIx0 : gIx (.lst (x :: xs)) (.int 0) n q = q x n := ex_eq (at0 _ _)
theorem lIx1 : gIx (.lst (x :: y :: xs)) (.int 1) n q = q y n := ex_eq (at1 _ _ _)
theorem lIx2 : gIx (.lst (x :: y :: z :: xs)) (.int 2) n q = q z n := ex_eq (at2 _ _ _ _)
/-- a field, read -/
def gFld (Cs : List Addr) (f : Str) (x : D) (n1 : NS) (q : D → NS → Prop) : Prop := match x with
  | .ins C ns xs => C ∈ Cs ∧ ∃ d, (ns.zip xs).lookup f = some d ∧ q d n1
  | .ref a => ∃ C dx ns xs d, n1.mu a = some (.ins C dx ns xs) ∧ C ∈ Cs ∧ (ns.zip xs).lookup f = some d ∧ q d n1
  | _ => False
theorem dFld_eq {Cs : List Addr} {f : Str} {fo : DTE} {δ : DEnv} {e : DX} : dFld Cs f fo δ n q e = fo δ n (fun x n1 => gFld Cs f x n1 q) e := rfl
theorem gFld_ins {Cs : List Addr} {f : Str} {C : Addr} {ns : List Str} {ys : List D} (h : C ∈ Cs) {d : D} (e : (ns.zip ys).lookup f = some d) : gFld Cs f (.ins C ns ys) n q = q d n := by
  show (C ∈ Cs ∧ ∃ d, _) = _
  rw [ex_eq e]
  exact propext ⟨fun z => z.2, fun z => ⟨h, z⟩⟩
end
end DL

set_option Elab.async false
set_option linter.all false
set_option maxRecDepth 100000
set_option maxHeartbeats 8000000
set_option autoImplicit false
/-! Lists that may change, handed to others; pop; enumerate and reversed of a list or a tuple; sum. -/
namespace OE
open PySem PySem.Spec PyProof.Rows L2
/-! enumerate(a tuple): each item in a new pair -/
def IteT (K : PySem.W.Frag) (a : Addr) : It where
  go := fun i H => ∃ (xs : List V) (x : V), SqT K H a xs ∧ xs[i]? = some x
  yld := fun i H v H' => ∃ T x, v = .ref T ∧ H T = none ∧ H' = upd H T (.tup [.int (i : Nat), x]) ∧ ∀ xs, SqT K H a xs → xs[i]? = some x
  stop := fun i H => ∃ xs : List V, SqT K H a xs ∧ xs.length ≤ i
def StE (a e it : Addr) (i : Nat) (h : Heap) : Prop := (∃ old, IsEnum h e it ((i : Nat) : Int) old) ∧ h.IsTupleIter it a i ∧ e ≠ it ∧ it ≠ a ∧ e ≠ a
theorem turnE {P : Program} {w : World} {K : PySem.W.Frag} {elts : List Expr} {kk : Nat} {tpos : Pos} (a e it : Addr) : Turn P w K (.Tuple elts kk tpos) (IteT K a) [e, it] e (StE a e it) where
  mem := List.mem_cons_self
  obj := by
    rintro i h ⟨⟨old, he⟩, ⟨o, ho, hc, hd⟩, _⟩ b hb
    rcases List.mem_cons.mp hb with rfl | hb
    · exact ⟨_, he, fun v q => by cases q⟩
    · obtain rfl := List.mem_singleton.mp hb
      exact ⟨o, ho, fun v q => by rw [hd] at q; cases q⟩
  keep := by
    rintro i h h' ⟨⟨old, he⟩, hi, hne⟩ k
    exact ⟨⟨old, k e List.mem_cons_self _ he⟩, hi.at fun o q => k it (List.mem_cons_of_mem _ List.mem_cons_self) o q, hne⟩
  item := by
    intro X hP hw hK hc i pins s σ H E I hf st hg
    subst hP; subst hw; subst hK
    obtain ⟨⟨old, he⟩, hit, hne, hia, hea⟩ := st
    obtain ⟨xs, x, hq, hx⟩ := hg
    obtain ⟨its, rv, p, hz⟩ := I.tuple hq
    obtain ⟨u, hu, ru⟩ := rv.get hx
    have hel : e < s.heap.objs.size := Heap.lt_size he
    have hil : it < s.heap.objs.size := hit.elim fun _ q => Heap.lt_size q.1
    have hlt : i < its.toArray.size := by
      have := (List.getElem?_eq_some_iff.mp hu).1
      simpa using this
    refine wpAny_pyNext_enum_itemD (Draws.tuple (A := X.A.in1) (show X.A.in1.handled = none from I.ok.hd hc) it a (Ne.symm hia) its.toArray) he ⟨hit, p⟩ hlt hne (by simp only [List.mem_cons, List.not_mem_nil, or_false, not_or]; exact ⟨hne, hea⟩) fun x' h' tk hPx ho hst' hT hsz hk => ?_
    have ex : x' = u := by
      have h1 : its.toArray[i]? = some u := by simpa using hu
      rw [h1] at hPx
      exact (Option.some.inj hPx).symm
    subst ex
    refine ⟨_, rfl, wpAny_letOwnedTupleGo_enum (s := { s with heap := h', toks := tk + 1 }) ho fun h2 he2 sb => ?_⟩
    have hT2 : h2.get? s.heap.objs.size = some { cls := .type "tuple", data := .seq #[.int i tk, x'] } := by rw [sb.2 _ (Nat.ne_of_gt hel)]; exact hT
    have new : ObjOk X.prog X.w (upd H s.heap.objs.size (.tup [.int (i : Nat), x])) h2 s.heap.objs.size (.tup [.int (i : Nat), x]) := by
      refine ⟨?_, [.int i tk, x'], .cons ⟨_, rfl⟩ (.cons ru .nil), ⟨_, hT2, rfl, _, rfl⟩⟩
      show 2 ≤ sizeLine
      decide
    have far : ∀ b, b ∉ [e, it] → b ≠ e ∧ b ≠ it := fun b hb => by simpa [not_or] using hb
    have I1 : Inv X pins σ (upd H s.heap.objs.size (.tup [.int (i : Nat), x])) { s with heap := h2, toks := tk + 1 } :=
      I.turnedNew (ch := [e, it]) (fun b ob hb q => by rw [sb.2 b (far b hb).1]; exact hk b ob (far b hb).1 (far b hb).2 q) hf (Nat.le_refl _) new
    have e1 : ((i + 1 : Nat) : Int) = (i : Int) + 1 := by omega
    refine ⟨.ref s.heap.objs.size, _, I1, rfl, ⟨_, x, rfl, I.hok.fresh (Nat.le_refl _), rfl, fun ys hy => by rw [I.tuple_inj hy hq]; exact hx⟩, ⟨⟨x', by rw [e1]; exact he2⟩, hst'.1.at fun o q => by rw [sb.2 it (Ne.symm hne)]; exact q, hne, hia, hea⟩, fun b hb => ?_⟩
    have hb' : b < s.heap.objs.size := by
      rcases List.mem_cons.mp hb with rfl | hb
      · exact hel
      · obtain rfl := List.mem_singleton.mp hb
        exact hil
    rw [upd_ne (Nat.ne_of_lt hb')]
    exact (hf b hb).1
  done := by
    intro X hP hw hK hc i pins s σ H E I hf st hg
    subst hP; subst hw; subst hK
    obtain ⟨⟨old, he⟩, hit, hne, hia, hea⟩ := st
    obtain ⟨xs, hq, hx⟩ := hg
    obtain ⟨its, rv, p, hz⟩ := I.tuple hq
    obtain ⟨f0, f1, f2, f3, f4, f5⟩ := hf it (List.mem_cons_of_mem _ List.mem_cons_self)
    have hl := rv.length
    have hTy : s.TypeIs (.ref e) "enumerate" := ⟨_, he, rfl⟩
    unfold pyNext
    refine wpAny_bind (wpAny_attempt (wpAny_callSpecial?_slot (name := Str.ofString "__next__") hTy F.slot_enumerate_next (wpAny_call_entry F.slot_enumerate_next hTy F.entry_enumerate_next ?_ (F.args_enumerate_next_1 _))))
    show wpAny _ _ (field (.ref e) 2 >>= _) _ _ _
    refine wpAny_bind (wpAny_field he rfl (x := .ref it) rfl (wpAny_bind (wpAny_nextOf_tuple_end (I.ok.hd hc) hit p (by simp; omega) fun h' x he' hx' => ?_)))
    refine hx'.elim fun o z => wpAny_bind (wpAny_isInstance (T := "StopIteration") (b := true) ⟨o, z.1, z.2⟩ isSubtype_stop (wpAny_pure ⟨rfl, ?_⟩))
    exact I.turned (t' := s.toks) (fun b o hb q => he' b o hb q) f0 f1 f3 f4 f5
  self := fun A i s Q E st h => by
    obtain ⟨⟨_, he⟩, _⟩ := st
    exact wpAny_pyIter_enum he h

section
variable {v : Value} {o : Obj} {HH : Heap → Prop}
def enO (a : Addr) : Obj := { cls := .type "enumerate", data := .fields #[.none, .bool false, .ref a, rawInt 0, .none, .none] }
theorem newB1 (B : Begins v o HH) : Meets (Builtin.«enumerate.__new__» ⟨[.type "enumerate", v], []⟩) (fun _ R s => HH s.heap ∧ R (.ok (.ret (.ref (s.heap.push o).objs.size))) { s with heap := (s.heap.push o).push (enO s.heap.objs.size) }) :=
  .of_wp fun prog w A R s h => by
    obtain ⟨hp, g, d, tk, os⟩ := s
    obtain ⟨h1, h⟩ := h
    have se := sub_enumerate
    have q1 : ∀ {A' : Around} {E Q : Value → Shared → Prop}, Q (.ref hp.objs.size) ⟨hp.push o, g, d, tk, os⟩ → wpAny (model prog w) A' (pyIter v) Q E ⟨hp, g, d, tk, os⟩ := fun q => B.iter prog w _ _ ⟨hp, g, d, tk, os⟩ _ h1 q
    wp_walk using q1
    refine wpAny_stack_any fun st => (wpAny_pure ?_)
    split
    · rename_i c _ _ _ _ _
      cases (c == Value.type "enumerate") <;> (wp_walk using q1) <;> exact ⟨_, rfl, h⟩
    · wp_walk using q1
      exact ⟨_, rfl, h⟩
variable {prog : Program} {w : World} {A : Around} {E : Value → Shared → Prop} {s : Shared}
/-- enumerate(v): its two new cells -/
theorem enum1 {Q : Value → Shared → Prop} (B : Begins v o HH) (h1 : HH s.heap)
    (h : ∀ h', IsEnum h' (s.heap.objs.size + 1) s.heap.objs.size 0 .none → h'.get? s.heap.objs.size = some o → (∀ b o, s.heap.get? b = some o → h'.get? b = some o) → Q (.ref (s.heap.objs.size + 1)) { s with heap := h' }) :
    wpAny (model prog w) A (call (.type "enumerate") [v]) Q E s := by
  refine callType_new F.called_enumerate (by decide) (F.typeCall_enumerate_1 _) (F.newCall_enumerate_1 _) (fun obj => F.args_object_init_2 obj _) F.entry_enumerate_new (newB1 B) ⟨h1, ?_⟩
  have hz : (s.heap.push o).objs.size = s.heap.objs.size + 1 := Heap.size_push ..
  show _ ∧ _
  rw [hz]
  have he : IsEnum ((s.heap.push o).push (enO s.heap.objs.size)) (s.heap.objs.size + 1) s.heap.objs.size 0 .none := by
    have := Heap.get?_push_size (s.heap.push o) (o := enO s.heap.objs.size) rfl
    rwa [hz] at this
  exact ⟨⟨_, he, rfl⟩, h _ he (Heap.get?_push_of_some _ (Heap.get?_push_size _ B.free)) fun b o x => Heap.get?_push_of_some _ (Heap.get?_push_of_some _ x)⟩
end
/-- enumerate(x), x a list or a tuple -/
def iEnumA (K : PySem.W.Frag) (te : TE) : TI := fun σ H R => te σ H fun v H1 => ∃ (a : Addr) (xs : List V), v = .ref a ∧ ((SqL K H1 a xs ∧ R (Ite K a) H1) ∨ (SqT K H1 a xs ∧ R (IteT K a) H1))
theorem pi_enumA {X : Cx} {e : Expr} {te : TE} {p pos tpos : Pos} {elts : List Expr} {kk : Nat} (hg : Gl X "enumerate") (hm : X.mg "enumerate" = none) (he : PE X e te) (hs : starEach [e] X.env = (false, eval e X.env) :: starEach [] X.env := by rfl) :
    PI X (.Tuple elts kk tpos) (.Call (.Name "enumerate" p) [e] [] pos) (iEnumA X.K te) := by
  refine ⟨fun pins s σ H R I h => ?_⟩
  refine Call_ (ld_blt I hg hm boot_enumerate (PyProof.Rows.callWith_type1 (args_cons (thn (he.run pins s σ H _ I h) fun u s1 ⟨v, H1, I1, r1, q1⟩ => args_nil ?_) hs) hs rfl))
  obtain ⟨a, xs, ev, q⟩ := q1
  subst ev
  obtain rfl : u = Value.ref a := r1
  have fp : ∀ (h' : Heap) (hk : ∀ b o, s1.heap.get? b = some o → h'.get? b = some o), ∀ b ∈ [s1.heap.objs.size + 1, s1.heap.objs.size], FpOk X pins H1 b := fun h' hk b hb => by
    have hle : s1.heap.objs.size ≤ b := by
      rcases List.mem_cons.mp hb with rfl | hb
      · exact Nat.le_add_right _ _
      · obtain rfl := List.mem_singleton.mp hb
        exact Nat.le_refl _
    exact I1.fpOk hle (I1.hok.fresh hle)
  rcases q with ⟨hq, q⟩ | ⟨hq, q⟩
  · obtain ⟨its, rv, p', hz⟩ := I1.list hq
    refine enum1 (begins_list a its.toArray) p'.isList fun h' hE hO hk => wpAny_pyIter_enum hE ?_
    exact ⟨_, _, _, _, H1, rfl, I1.kept (t' := s1.toks) hk, turn_enum a _ _, ⟨⟨.none, hE⟩, ⟨_, hO, rfl, rfl⟩, Nat.succ_ne_self _⟩, fp h' hk, q⟩
  · obtain ⟨its, rv, p', hz⟩ := I1.tuple hq
    refine enum1 (begins_tuple a its.toArray) p' fun h' hE hO hk => wpAny_pyIter_enum hE ?_
    have ha : a < s1.heap.objs.size := p'.elim fun _ z => Heap.lt_size z.1
    exact ⟨_, _, _, _, H1, rfl, I1.kept (t' := s1.toks) hk, turnE a _ _, ⟨⟨.none, hE⟩, ⟨_, hO, rfl, rfl⟩, Nat.succ_ne_self _, Nat.ne_of_gt ha, Nat.ne_of_gt (Nat.lt_succ_of_lt ha)⟩, fp h' hk, q⟩
end OE
namespace DL
open PySem PySem.Spec PyProof.Rows L2
section
variable {X : Cx} {M : LK} {W : WX}
/-- what is never come to -/
def dNev : DTE := fun _ _ _ _ => False
theorem dp_never {e : Expr} : PE X e (liftE M W dNev) := ⟨fun pins s σ H Q I ⟨_, _, _, _, _, _, _, hf, _⟩ => hf.elim⟩
/-! sum of a list of ints -/
def gSum : GC := fun xs n q => ∃ is : List Int, xs = [.lst (is.map .int)] ∧ q (.int is.sum) n
theorem drc_sum (hK : X.K = M.L.K) : DRC M (rSum X.K) gSum := by
  rintro pn G n σ δ H vs xs q Q R iv ⟨is, rfl, h⟩ k
  obtain ⟨v, rfl, iw⟩ := iv.one
  simp only [Is] at iw
  obtain ⟨p, us, rfl, h1, h2⟩ := iw
  obtain rfl := IsL.ints h2
  exact ⟨p, is, rfl, SqL.of (R.ex _ _ h1), k G _ _ n H Adv.refl R (by simp only [Is]) h⟩
/-! list(x): x may change; what comes may change -/
def gListX : GC := fun xs n q => match xs with
  | [.ref a] => ∃ ys, n.mu a = some (.lst ys) ∧ q (.lst ys) n
  | xs => gList xs n q
def mkM (ys : List D) (n : NS) (q : D → NS → Prop) : Prop := ∀ p, n.mu p = none → q (.ref p) ⟨n.at_, mup n.mu p (some (.lst ys))⟩
def gListM : GC := fun xs n q => match xs with
  | [.ref a] => ∃ ys, n.mu a = some (.lst ys) ∧ mkM ys n q
  | [.lst ys] => mkM ys n q
  | [.tup ys] => mkM ys n q
  | _ => False
abbrev rList (K : PySem.W.Frag) : List V → Hp → VK → Prop := fun xs H Q => (∃ p ys, xs = [.ref p] ∧ (SqL K H p ys ∨ SqT K H p ys) ∧ ∀ l, H l = none → Q (.ref l) (upd H l (.lst ys))) ∨ ∃ z : Str, xs = [.str z] ∧ z.length ≤ sizeLine ∧ ∀ l, H l = none → Q (.ref l) (upd H l (.lst (z.cps.toList.map fun c => V.str ⟨#[c]⟩)))
theorem mu_lst {pn a : Addr} {G H : Hp} {n : NS} {σ : L2.St} {δ : DEnv} {ys : List D} (R : Rep M pn G n σ δ H) (h : n.mu a = some (.lst ys)) : ∃ us, H a = some (.lst us) ∧ IsL M G us ys := by
  obtain ⟨u, g1, g2, _, _⟩ := R.mu a _ h
  cases u <;> simp only [MIs] at g2
  exact ⟨_, g1, g2⟩
theorem drc_listX (hK : X.K = M.L.K) : DRC M (rList X.K) gListX := by
  intro pn G n σ δ H vs xs q Q R iv h k
  unfold gListX at h
  split at h
  · obtain ⟨v, rfl, iw⟩ := iv.one
    simp only [Is] at iw
    subst iw
    obtain ⟨ys, hm, h⟩ := h
    obtain ⟨us, g1, g2⟩ := mu_lst R hm
    refine .inl ⟨_, us, rfl, .inl (SqL.of g1), fun l hl => ?_⟩
    obtain ⟨R2, A2⟩ := R.lay (o := .lst us) hl notTbl_lst
    exact k _ _ _ n _ A2 R2 (by simp only [Is]; exact ⟨l, us, rfl, upd_same, IsL.up A2.ge _ _ g2⟩) h
  · exact drc_list hK pn G n σ δ H vs _ q Q R iv h k
theorem mk_is {pn l : Addr} {G H : Hp} {n : NS} {σ : L2.St} {δ : DEnv} {us : List V} {ys : List D} {q : D → NS → Prop} {Q : VK} (R : Rep M pn G n σ δ H) (i : IsL M G us ys) (hl : H l = none) (h : mkM ys n q)
    (k : ∀ G' v d n' H', Adv pn G H G' H' → Rep M pn G' n' σ δ H' → Is M G' v d → q d n' → Q v H') : Q (.ref l) (upd H l (.lst us)) := by
  obtain ⟨R2, A2⟩ := R.mak (o := .lst us) (u := .lst ys) hl i
  exact k _ (.ref l) (.ref l) _ _ A2 R2 (by simp only [Is]) (h l (R.munone hl))
theorem drc_listM (hK : X.K = M.L.K) : DRC M (rList X.K) gListM := by
  intro pn G n σ δ H vs xs q Q R iv h k
  unfold gListM at h
  split at h
  · obtain ⟨v, rfl, iw⟩ := iv.one
    simp only [Is] at iw
    subst iw
    obtain ⟨ys, hm, h⟩ := h
    obtain ⟨us, g1, g2⟩ := mu_lst R hm
    exact .inl ⟨_, us, rfl, .inl (SqL.of g1), fun l hl => mk_is R g2 hl h k⟩
  · obtain ⟨v, rfl, iw⟩ := iv.one
    simp only [Is] at iw
    obtain ⟨p, us, rfl, h1, h2⟩ := iw
    exact .inl ⟨p, us, rfl, .inl (SqL.of (R.ex _ _ h1)), fun l hl => mk_is R h2 hl h k⟩
  · obtain ⟨v, rfl, iw⟩ := iv.one
    simp only [Is] at iw
    obtain ⟨p, us, rfl, h1, h2⟩ := iw
    exact .inl ⟨p, us, rfl, .inr (by rw [hK]; exact R.ex.seqT h1), fun l hl => mk_is R h2 hl h k⟩
  · exact h.elim
/-! xs * k, a list that may change -/
def gMulLM : GR2 := fun x y n q => match x, y with
  | .lst xs, .int k => (-(2 ^ 62) ≤ k ∧ k ≤ 100000 ∧ xs.length * k.toNat ≤ 100000) ∧ mkM (List.replicate k.toNat xs).flatten n q
  | _, _ => False
theorem dr_mulLM : DR2 M rRep gMulLM := by
  intro pn G n σ δ H v u x y q Q R ix iy h kk
  unfold gMulLM at h
  split at h
  · rename_i xs k
    obtain ⟨⟨h0, h1, h2⟩, h⟩ := h
    simp only [Is] at ix iy
    obtain ⟨p, vs, rfl, g1, g2⟩ := ix
    subst iy
    refine ⟨p, k, vs, rfl, rfl, R.ex _ _ g1, by omega, by omega, by rw [g2.length]; exact le_line h2, fun l hl => mk_is R (IsL.rep g2 _) hl h kk⟩
  · exact h.elim
theorem dp_mulLM {a b : Expr} {pos : Pos} {fa fb : DTE} (ha : PE X a (liftE M W fa)) (hb : PE X b (liftE M W fb)) : PE X (.BinOp a .Mult b pos) (liftE M W (dOp gMulLM fa fb)) := dp_op op_rep dr_mulLM ha hb
/-! xs * k, a list that changes no more, k of either sign -/
def gMulLZ : GR2 := fun x y n q => match x, y with
  | .lst xs, .int k => (-(2 ^ 62) ≤ k ∧ k ≤ 100000 ∧ xs.length * k.toNat ≤ 100000) ∧ q (.lst (List.replicate k.toNat xs).flatten) n
  | _, _ => False
theorem dr_mulLZ : DR2 M rRep gMulLZ := by
  intro pn G n σ δ H v u x y q Q R ix iy h kk
  unfold gMulLZ at h
  split at h
  · rename_i xs k
    obtain ⟨⟨h0, h1, h2⟩, h⟩ := h
    simp only [Is] at ix iy
    obtain ⟨p, vs, rfl, g1, g2⟩ := ix
    subst iy
    refine ⟨p, k, vs, rfl, rfl, R.ex _ _ g1, by omega, by omega, by rw [g2.length]; exact le_line h2, fun l hl => ?_⟩
    obtain ⟨R2, A2⟩ := R.lay (o := .lst (List.replicate k.toNat vs).flatten) hl notTbl_lst
    exact kk _ _ _ n _ A2 R2 (by simp only [Is]; exact ⟨l, _, rfl, upd_same, IsL.up A2.ge _ _ (IsL.rep g2 _)⟩) h
  · exact h.elim
theorem dp_mulLZ {a b : Expr} {pos : Pos} {fa fb : DTE} (ha : PE X a (liftE M W fa)) (hb : PE X b (liftE M W fb)) : PE X (.BinOp a .Mult b pos) (liftE M W (dOp gMulLZ fa fb)) := dp_op op_rep dr_mulLZ ha hb
/-! o.pop() -/
def dPop (fo : DTE) : DTE := fun δ n q e => fo δ n (fun x n1 => ∃ a xs y, x = .ref a ∧ n1.mu a = some (.lst (xs ++ [y])) ∧ q y ⟨n1.at_, mup n1.mu a (some (.lst xs))⟩) e
theorem IsL.snoc {G : Hp} {vs : List V} {xs : List D} {y : D} (h : IsL M G vs (xs ++ [y])) : ∃ us u, vs = us ++ [u] ∧ IsL M G us xs ∧ Is M G u y := by
  have hl := h.length
  rw [List.length_append, List.length_singleton] at hl
  have h1 := IsL.take xs.length h
  have h2 := IsL.drop xs.length h
  rw [List.take_left] at h1
  rw [List.drop_left] at h2
  obtain ⟨u, e, iu⟩ := h2.one
  exact ⟨vs.take xs.length, u, by rw [← e, List.take_append_drop], h1, iu⟩
theorem dp_pop {o : Expr} {apos pos : Pos} {fo : DTE} (h : PE X (.Call (.Attribute o "pop" apos) [] [] pos) (tBM0 X.K "list" rPop (liftE M W fo))) : PE X (.Call (.Attribute o "pop" apos) [] [] pos) (liftE M W (dPop fo)) :=
  PEw h fun σ H Q ⟨pn, G, n, δ, q, e, R, hf, hQ, hX⟩ => by
    refine ⟨pn, G, n, δ, _, e, R, hf, fun G1 v x n1 H1 A1 R1 i1 h1 => ?_, hX⟩
    obtain ⟨a, xs, y, rfl, hm, h1⟩ := h1
    simp only [Is] at i1
    subst i1
    obtain ⟨us, g1, g2⟩ := mu_lst R1 hm
    obtain ⟨vs, u, rfl, k1, k2⟩ := g2.snoc
    refine ⟨.inl ⟨rfl, _, SqL.of g1⟩, a, vs ++ [u], u, rfl, rfl, g1, by simp, ?_⟩
    rw [List.dropLast_concat]
    exact hQ G1 u y _ _ ⟨A1.ge⟩ (R1.chg hm (by simp only [MIs]; exact k1)) k2 h1
/-! isinstance of a list that may change -/
def gIsiTM (K : PySem.W.Frag) : GC := fun xs n q => match xs with
  | [.ref a, .tup cs] => ∃ ys us b, n.mu a = some (.lst ys) ∧ clsDs cs = some us ∧ PySem.W.kitAny K (.type "list") us = some b ∧ q (.bl b) n
  | xs => gIsiT K xs n q
theorem drc_isiTM (hK : X.K = M.L.K) : DRC M (fun xs H Q => ∃ (x : V) (tp : Addr) (cs : List V) (t : Value) (us : List Value) (b : Bool), xs = [x, .ref tp] ∧ SqT X.K H tp cs ∧ Paired ClsV cs us ∧ TyX X.K H x t ∧ PySem.W.kitAny X.K t us = some b ∧ Q (.bl b) H) (gIsiTM M.L.K) := by
  intro pn G n σ δ H vs xs q Q R iv h k
  unfold gIsiTM at h
  split at h
  · rename_i a cs
    obtain ⟨ys, us, b, hm, h2, h3, h4⟩ := h
    obtain ⟨v, v', rfl, iw, iw'⟩ := iv.two
    simp only [Is] at iw iw'
    subst iw
    obtain ⟨p, ws, rfl, g1, g2⟩ := iw'
    obtain ⟨zs, k1, k2⟩ := mu_lst R hm
    exact ⟨.ref a, p, ws, .type "list", us, b, rfl, by rw [hK]; exact R.ex.seqT g1, clsDs_ok h2 g2, .base (.lst k1), by rw [hK]; exact h3, k G _ _ n H Adv.refl R (by simp only [Is]) h4⟩
  · exact drc_isiT hK pn G n σ δ H vs _ q Q R iv h k
/-! a list that may change != a list -/
def gNeM : GR2 := fun x y n q => match x with
  | .ref a => ∃ xs p r, n.mu a = some (.lst xs) ∧ py (.lst xs) = some p ∧ py y = some r ∧ SeqAt.shaped p = true ∧ SeqAt.shaped r = true ∧ q (.bl (!PyData.eqv p r)) n
  | x => gNe x y n q
theorem dr_neM : DR2 M (fun x y H Q => rNe x y H Q ∨ rNeD M.L.K x y H Q) gNeM := by
  intro pn G n σ δ H v u x y q Q R ix iy h k
  unfold gNeM at h
  split at h
  · obtain ⟨xs, a, b, hm, e1, e2, s1, s2, h⟩ := h
    simp only [Is] at ix
    subst ix
    obtain ⟨zs, k1, k2⟩ := mu_lst R hm
    simp only [py, Option.map_eq_some_iff] at e1
    obtain ⟨ys, e1, rfl⟩ := e1
    exact .inr ⟨_, b, .lst (SqL.of k1) (py_dpL R.ex xs zs ys k2 e1), py_dp R.ex y u b iy e2, s1, s2, k G _ (.bl (!PyData.eqv (.list ys) b)) n H Adv.refl R (by simp only [Is]) h⟩
  · exact dr_ne pn G n σ δ H v u _ y q Q R ix iy h k
end
end DL

set_option Elab.async false
set_option linter.all false
set_option maxRecDepth 100000
set_option maxHeartbeats 8000000
set_option autoImplicit false
/-! for over a list that may change and does not; enumerate, reversed of trees. -/
namespace DL
open PySem PySem.Spec PyProof.Rows L2
section
variable {X : Cx} {M : LK} {W : WX}
def iSeqE (K : PySem.W.Frag) (te : TE) : TI := fun σ H R => te σ H fun x H1 => (∃ a, x = .ref a ∧ (∃ xs, SqL K H1 a xs) ∧ R (Itl K a) H1) ∨ (∃ a, x = .ref a ∧ (∃ xs, SqT K H1 a xs) ∧ R (Itt K a) H1) ∨ (∃ z, x = .str z ∧ R (Its z) H1)
theorem pi_seqE {tg l : Expr} {te : TE} (h : PE X l te) : PI X tg l (iSeqE X.K te) := by
  refine ⟨fun pins s σ H R I h' => thn (h.run pins s σ H _ I h') fun v s1 ⟨x, H1, I1, r1, q1⟩ => ?_⟩
  rcases q1 with ⟨a, e, ⟨xs, hq⟩, q⟩ | ⟨a, e, ⟨xs, hq⟩, q⟩ | ⟨z, e, q⟩
  · subst e; cases r1
    obtain ⟨its, rv, p, hz⟩ := I1.list hq
    exact wpAny_pyIter_list p.isList (pi_one (tk := s1.toks) I1 _ (turn_list a _) ⟨_, Heap.get?_push_size _ rfl, rfl, rfl⟩ q)
  · subst e; cases r1
    obtain ⟨its, rv, p, hz⟩ := I1.tuple hq
    exact wpAny_pyIter_tuple (show s1.heap.IsTuple a its.toArray from p) (pi_one (tk := s1.toks) I1 _ (turn_tuple a _) ⟨_, Heap.get?_push_size _ rfl, rfl, rfl⟩ q)
  · subst e
    obtain ⟨t, rfl⟩ := r1
    cases ha : z.cps.all (· < 128)
    · exact wpAny_pyIter_wide ha (pi_one (tk := s1.toks) I1 _ (turn_str _ z t "str_iterator" (.inr rfl)) ⟨_, Heap.get?_push_size _ rfl, rfl, rfl⟩ q)
    · exact wpAny_pyIter_ascii ha (pi_one (tk := s1.toks) I1 _ (turn_str _ z t "str_ascii_iterator" (.inl rfl)) ⟨_, Heap.get?_push_size _ rfl, rfl, rfl⟩ q)
/-- the turns, C all the while -/
def dForC (C : NS → Prop) (g : DTG) (body : DTS) : List D → DEnds → DEnv → NS → Prop
  | [], k, δ, n => C n ∧ k.nx δ n
  | d :: ds, k, δ, n => C n ∧ g d δ n fun δ' n' => body { k with nx := fun δ2 n2 => dForC C g body ds k δ2 n2, ct := fun δ2 n2 => dForC C g body ds k δ2 n2, bk := k.nx } δ' n'
theorem dForC_true {g : DTG} {body : DTS} {k : DEnds} : ∀ ds : List D, (fun δ n => dForC (fun _ => True) g body ds k δ n) = fun δ n => dForL g body ds k δ n
  | [] => by
    funext δ n
    simp only [dForC, dForL, true_and]
  | d :: ds => by
    funext δ n
    simp only [dForC, dForL, true_and]
    have ih := dForC_true (g := g) (body := body) (k := k) ds
    rw [ih]
theorem dForC_c {C : NS → Prop} {g : DTG} {body : DTS} {ds : List D} {k : DEnds} {δ : DEnv} {n : NS} (h : dForC C g body ds k δ n) : C n := by cases ds <;> exact h.1
structure YieldsC (M : LK) (pn : Addr) (G0 : Hp) (J : It) (ds : List D) (C : NS → Prop) : Prop where
  go : ∀ i G H n σ δ, Ext G0 G → Rep M pn G n σ δ H → C n → ∀ d, ds[i]? = some d → J.go i H ∧ ∀ x H', J.yld i H x H' → ∃ G', Adv pn G H G' H' ∧ Rep M pn G' n σ δ H' ∧ Is M G' x d
  stop : ∀ G H n σ δ, Ext G0 G → Rep M pn G n σ δ H → C n → J.stop ds.length H
theorem Yields.toC {pn : Addr} {G0 H0 : Hp} {J : It} {ds : List D} (Y : Yields M pn G0 H0 J ds) : YieldsC M pn G0 J ds fun _ => True :=
  ⟨fun i G H n σ δ e R _ d hd => Y.go i G H n σ δ e R d hd, fun G H n σ δ e R _ => Y.stop G H n σ δ e R⟩
theorem for_turns {pn : Addr} {G1 H1 : Hp} {J : It} {ds : List D} {C : NS → Prop} {g : DTG} {vs : List Nat} {f : DTS} {k : DEnds} {δ : DEnv} {n1 : NS} {σ : L2.St} {D₀ : Ends} (Y : YieldsC M pn G1 J ds C) (h1 : dForC C g f ds k δ n1) (R1 : Rep M pn G1 n1 σ δ H1) (s : SEnd M W pn G1 H1 D₀ k) :
    ∃ Wf : Nat → Nat → L2.St → Hp → Prop, (∃ m, Wf 0 m σ H1) ∧ ∀ i m σ H, Wf i m σ H →
      (J.stop i H ∧ D₀.nx σ H) ∨ (J.go i H ∧ ∃ N : L2.St → Hp → Prop, (∀ σ' H', N σ' H' → ∃ m', m' < m ∧ Wf (i + 1) m' σ' H') ∧ ∀ x H', J.yld i H x H' → liftG M vs g x σ H' fun σ2 H2 => liftS M W f { D₀ with nx := N, ct := N, bk := D₀.nx } σ2 H2) := by
  refine ⟨fun i m σ' H' => m = ds.length - i ∧ i ≤ ds.length ∧ ∃ G' n' δ', Rep M pn G' n' σ' δ' H' ∧ Adv pn G1 H1 G' H' ∧ dForC C g f (ds.drop i) k δ' n', ⟨_, rfl, Nat.zero_le _, G1, n1, δ, R1, Adv.refl, h1⟩, ?_⟩
  rintro i m σ2 H2 ⟨rfl, hi, G2, n2, δ2, R2, A2, h2⟩
  have hC := dForC_c h2
  by_cases hlt : i < ds.length
  · have e1 : ds.drop i = ds[i] :: ds.drop (i + 1) := List.drop_eq_getElem_cons hlt
    rw [e1] at h2
    obtain ⟨g1, g2⟩ := Y.go i G2 H2 n2 σ2 δ2 A2.ge R2 hC ds[i] (List.getElem?_eq_getElem hlt)
    refine .inr ⟨g1, fun σ' H' => ∃ G' n' δ', Rep M pn G' n' σ' δ' H' ∧ Adv pn G1 H1 G' H' ∧ dForC C g f (ds.drop (i + 1)) k δ' n', fun σ' H' h' => ⟨_, by omega, rfl, hlt, h'⟩, fun x H3 hy => ?_⟩
    obtain ⟨G3, A3, R3, i3⟩ := g2 x H3 hy
    refine ⟨pn, G3, n2, δ2, ds[i], _, R3, i3, h2.2, fun G4 σ4 δ4 n4 H4 A4 R4 _ h4 => ?_⟩
    have A14 : Adv pn G1 H1 G4 H4 := A2.trans (A3.trans A4)
    have s4 := s.on R1 A14
    exact ⟨pn, G4, n4, δ4, _, R4, h4, ⟨fun G' σ' δ' n' H' A' R' h' => ⟨G', n', δ', R', A14.trans A', h'⟩, s4.rt, fun G' σ' δ' n' H' A' R' h' => s4.nx G' σ' δ' n' H' A' R' h', fun G' σ' δ' n' H' A' R' h' => ⟨G', n', δ', R', A14.trans A', h'⟩, s4.ex⟩⟩
  · have e : i = ds.length := by omega
    subst e
    rw [List.drop_length] at h2
    exact .inl ⟨Y.stop G2 H2 n2 σ2 δ2 A2.ge R2 hC, s.nx G2 σ2 δ2 n2 H2 A2 R2 h2.2⟩
theorem yields_mu {pn a : Addr} {G0 : Hp} {ys : List D} : YieldsC M pn G0 (Itl M.L.K a) ys fun n => n.mu a = some (.lst ys) where
  go := fun i G H n σ δ A R hm d hd => by
    obtain ⟨vs, e, hi⟩ := mu_lst R hm
    obtain ⟨v, h1, h2⟩ := IsL.get hi hd
    refine ⟨⟨vs, v, SqL.of e, h1⟩, fun x H' y => ?_⟩
    obtain ⟨rfl, y⟩ := y
    have ex := y vs (SqL.of e)
    rw [h1] at ex
    cases ex
    exact ⟨G, Adv.refl, R, h2⟩
  stop := fun G H n σ δ A R hm => by
    obtain ⟨vs, e, hi⟩ := mu_lst R hm
    exact ⟨vs, SqL.of e, by rw [hi.length]; exact Nat.le_refl _⟩
def dForM (f : DTE) (g : DTG) (body : DTS) : DTS := fun k δ n => f δ n (fun d n1 => match d with
  | .ref a => ∃ ys, n1.mu a = some (.lst ys) ∧ dForC (fun n => n.mu a = some (.lst ys)) g body ys k δ n1
  | d => match items d with | some ds => dForL g body ds k δ n1 | none => False) k.ex
theorem ds_forM {tg iter : Expr} {body : List Stmt} {pos : Pos} {fe : DTE} {g : DTG} {vs : List Nat} {f : DTS} (hp : PassesOwn (model X.prog X.w) X.A X.env X.xe) (hc : X.calm = true) (hK : X.K = M.L.K) (hi : PE X iter (liftE M W fe)) (hg : PG X tg (liftG M vs g)) (hb : PSs X body (liftS M W f))
    (hs : ∀ x, foldedSetIterable iter X.env x = pure x := by intro _; rfl) : PS X (.For tg iter body [] pos) (liftS M W (dForM fe g f)) :=
  PSw (ps_for hp hc (pi_seqE hi) hg hb hs) fun D₀ σ H ⟨pn, G, n, δ, k, R, hf, s⟩ => by
    refine ⟨pn, G, n, δ, _, k.ex, R, hf, fun G1 v d n1 H1 A1 R1 i1 h1 => ?_, s.xe⟩
    rw [hK]
    have s1 := s.on R A1
    cases d with
    | ref a =>
      simp only [Is] at i1
      subst i1
      obtain ⟨ys, hm, h1⟩ := h1
      obtain ⟨vs, e, hi⟩ := mu_lst R1 hm
      exact .inl ⟨a, rfl, ⟨vs, SqL.of e⟩, for_turns yields_mu h1 R1 s1⟩
    | lst xs =>
      simp only [Is] at i1
      obtain ⟨p, us, rfl, h2, h3⟩ := i1
      have h1 : dForL g f xs k δ n1 := h1
      refine .inl ⟨p, rfl, ⟨us, SqL.of (R1.ex _ _ h2)⟩, for_turns (yields_list (H0 := H1) h2 h3).toC ?_ R1 s1⟩
      exact (congrFun (congrFun (dForC_true xs) δ) n1).mpr h1
    | tup xs =>
      simp only [Is] at i1
      obtain ⟨p, us, rfl, h2, h3⟩ := i1
      have h1 : dForL g f xs k δ n1 := h1
      refine .inr (.inl ⟨p, rfl, ⟨us, R1.ex.seqT h2⟩, for_turns (yields_tup (H0 := H1) h2 h3).toC ?_ R1 s1⟩)
      exact (congrFun (congrFun (dForC_true xs) δ) n1).mpr h1
    | str l =>
      simp only [Is] at i1
      have h1 : dForL g f (l.map fun c => .str [c]) k δ n1 := h1
      refine .inr (.inr ⟨S l, i1, for_turns (yields_str (G0 := G1) (H0 := H1)).toC ?_ R1 s1⟩)
      exact (congrFun (congrFun (dForC_true _) δ) n1).mpr h1
    | _ => exact h1.elim
/-! enumerate, reversed -/
def diEnumA (f : DTE) : DTI := fun δ n q e => f δ n (fun x n1 => match x with
  | .lst ds => q (ds.zipIdx.map fun p => .tup [.int (p.2 : Nat), p.1]) n1
  | .tup ds => q (ds.zipIdx.map fun p => .tup [.int (p.2 : Nat), p.1]) n1
  | _ => False) e
theorem yields_enumT {pn a : Addr} {G0 H0 : Hp} {vs : List V} {ds : List D} (h : SqT M.L.K G0 a vs) (hi : IsL M G0 vs ds) : Yields M pn G0 H0 (OE.IteT M.L.K a) (ds.zipIdx.map fun p => .tup [.int (p.2 : Nat), p.1]) where
  go := fun i G H n σ δ A R d hd => by
    have e : SqT M.L.K H a vs := R.ex.seqT (Ext.seqT A h)
    rw [List.getElem?_map, List.getElem?_zipIdx] at hd
    cases e1 : ds[i]? with
    | none => rw [e1] at hd; cases hd
    | some d1 =>
      rw [e1] at hd
      cases hd
      obtain ⟨v, h1, h2⟩ := IsL.get (IsL.up A ds vs hi) e1
      refine ⟨⟨vs, v, e, h1⟩, fun x H' y => ?_⟩
      obtain ⟨T, u, rfl, hT, rfl, y⟩ := y
      have ex := y vs e
      rw [h1] at ex
      cases ex
      obtain ⟨R2, A2⟩ := R.lay (o := .tup [.int (i : Nat), v]) hT notTbl_tup
      refine ⟨_, A2, R2, ?_⟩
      simp only [Is, IsL, Option.map, Nat.zero_add]
      exact ⟨T, _, rfl, SqT.of upd_same, by simp only [IsL, Is]; exact ⟨trivial, Is.up A2.ge d1 v h2, trivial⟩⟩
  stop := fun G H n σ δ A R => ⟨vs, R.ex.seqT (Ext.seqT A h), by simp [hi.length]⟩
theorem di_enumA {tg e : Expr} {f : DTE} (hK : X.K = M.L.K) (h : PI X tg e (OE.iEnumA X.K (liftE M W f))) : PI X tg e (liftI M W (diEnumA f)) :=
  PIw h fun σ H R' ⟨pn, G, n, δ, q, e, R, hf, hQ, hX⟩ => ⟨pn, G, n, δ, _, e, R, hf, fun G1 v d n1 H1 A1 R1 i1 h1 => by
    rw [hK]
    cases d with
    | lst xs =>
      simp only [Is] at i1
      obtain ⟨p, us, rfl, h2, h3⟩ := i1
      exact ⟨p, us, rfl, .inl ⟨SqL.of (R1.ex _ _ h2), hQ G1 _ n1 H1 _ A1 R1 (yields_enum h2 h3) h1⟩⟩
    | tup xs =>
      simp only [Is] at i1
      obtain ⟨p, us, rfl, h2, h3⟩ := i1
      exact ⟨p, us, rfl, .inr ⟨R1.ex.seqT h2, hQ G1 _ n1 H1 _ A1 R1 (yields_enumT h2 h3) h1⟩⟩
    | _ => exact h1.elim, hX⟩
def diRevA (f : DTE) : DTI := fun δ n q e => f δ n (fun x n1 => match x with
  | .lst ds => q ds.reverse n1
  | .tup ds => q ds.reverse n1
  | _ => False) e
theorem rev_at {α : Type} {xs : List α} {i : Nat} {x : α} (h : xs.reverse[i]? = some x) : i < xs.length ∧ xs[xs.length - 1 - i]? = some x := by
  have hi : i < xs.length := by
    have := (List.getElem?_eq_some_iff.mp h).1
    simpa using this
  rw [List.getElem?_reverse hi] at h
  exact ⟨hi, h⟩
theorem yields_rev {pn a : Addr} {G0 H0 : Hp} {vs : List V} {ds : List D} (h : G0 a = some (.lst vs)) (hi : IsL M G0 vs ds) : Yields M pn G0 H0 (Itv M.L.K a vs.length) ds.reverse where
  go := fun i G H n σ δ A R d hd => by
    have e : H a = some (.lst vs) := R.ex _ _ (A _ _ h)
    obtain ⟨l1, l2⟩ := rev_at hd
    have hl := hi.length
    rw [← hl] at l1 l2
    obtain ⟨v, h1, h2⟩ := IsL.get (IsL.up A ds vs hi) l2
    refine ⟨⟨l1, vs, v, SqL.of e, h1⟩, fun x H' y => ?_⟩
    obtain ⟨rfl, y⟩ := y
    have ex := y vs (SqL.of e)
    rw [h1] at ex
    cases ex
    exact ⟨G, Adv.refl, R, h2⟩
  stop := fun G H n σ δ A R => by show vs.length ≤ _; rw [List.length_reverse, hi.length]; exact Nat.le_refl _
theorem yields_revT {pn a : Addr} {G0 H0 : Hp} {vs : List V} {ds : List D} (h : SqT M.L.K G0 a vs) (hi : IsL M G0 vs ds) : Yields M pn G0 H0 (RT.ItvT M.L.K a vs.length) ds.reverse where
  go := fun i G H n σ δ A R d hd => by
    have e : SqT M.L.K H a vs := R.ex.seqT (Ext.seqT A h)
    obtain ⟨l1, l2⟩ := rev_at hd
    have hl := hi.length
    rw [← hl] at l1 l2
    obtain ⟨v, h1, h2⟩ := IsL.get (IsL.up A ds vs hi) l2
    refine ⟨⟨l1, vs, v, e, h1⟩, fun x H' y => ?_⟩
    obtain ⟨rfl, y⟩ := y
    have ex := y vs e
    rw [h1] at ex
    cases ex
    exact ⟨G, Adv.refl, R, h2⟩
  stop := fun G H n σ δ A R => by show vs.length ≤ _; rw [List.length_reverse, hi.length]; exact Nat.le_refl _
theorem di_revA {tg e : Expr} {f : DTE} (hK : X.K = M.L.K) (h : PI X tg e (RT.iRevA X.K (liftE M W f))) : PI X tg e (liftI M W (diRevA f)) :=
  PIw h fun σ H R' ⟨pn, G, n, δ, q, e, R, hf, hQ, hX⟩ => ⟨pn, G, n, δ, _, e, R, hf, fun G1 v d n1 H1 A1 R1 i1 h1 => by
    rw [hK]
    cases d with
    | lst xs =>
      simp only [Is] at i1
      obtain ⟨p, us, rfl, h2, h3⟩ := i1
      exact ⟨p, us, rfl, .inl ⟨SqL.of (R1.ex _ _ h2), hQ G1 _ n1 H1 _ A1 R1 (yields_rev h2 h3) h1⟩⟩
    | tup xs =>
      simp only [Is] at i1
      obtain ⟨p, us, rfl, h2, h3⟩ := i1
      exact ⟨p, us, rfl, .inr ⟨R1.ex.seqT h2, hQ G1 _ n1 H1 _ A1 R1 (yields_revT h2 h3) h1⟩⟩
    | _ => exact h1.elim, hX⟩
end
end DL

set_option Elab.async false
set_option linter.all false
set_option maxRecDepth 100000
set_option maxHeartbeats 8000000
set_option autoImplicit false
/-! == and != of two values of one tree, with instances that have an own ==. -/
namespace GR
open PySem PySem.SeqAt
open AutoSeq1 (wpAny_loadPart')
open MeetsSeq MeetsSeq2 MeetsSeq3 SeqRoads2 GQ
section
variable {prog : Program} {w : World} {A : Around} {R : Result → Shared → Prop}
/-- both lists are at their end -/
theorem ne_stop {l b : Addr} {N : Nat} {I : Nat → Shared → Prop} (hl : ListI prog w A (fun e s' => R (.error e) s') l b N I) {s : Shared} (h : I N s) (hR : R (.ok (.ret (.bool false))) s) :
    wpAny (model prog w) A.in1 (Builtin.«list.__eq__.loop» ⟨[.ref l, .ref b, rawInt N, rawInt 3], []⟩) (FinOf prog w A R) (fun e s' => R (.error e) s') s := by
  obtain ⟨xs, ys, m, m2, ex, ey, zx, zy, _⟩ := hl _ _ h
  have o1 : xs[((N : Nat) : Int).toNat]? = none := by simp; omega
  have o2 : ys[((N : Nat) : Int).toNat]? = none := by simp; omega
  obtain ⟨hp, g, d, tk, os⟩ := s
  wp_walk using wpAny_loadPart' ex, wpAny_loadPart' ey
  rw [o1, o2]
  wp_walk using wpAny_loadPart' ex, wpAny_loadPart' ey
  have z : (xs.size != ys.size) = false := by simp [zx, zy]
  show R (.ok (.ret (.bool (xs.size != ys.size)))) _
  rw [z]
  exact hR
/-- one turn: the two items are equal -/
theorem ne_turn {l b : Addr} {N : Nat} {I : Nat → Shared → Prop} (hl : ListI prog w A (fun e s' => R (.error e) s') l b N I) {i : Nat} (hi : i < N) {s : Shared} (h : I i s)
    (go : ∀ s2, I (i + 1) s2 → wpAny (model prog w) A.in1 (Builtin.«list.__eq__.loop» ⟨[.ref l, .ref b, rawInt (i + 1 : Nat), rawInt 3], []⟩) (FinOf prog w A R) (fun e s' => R (.error e) s') s2) :
    wpAny (model prog w) A.in1 (Builtin.«list.__eq__.loop» ⟨[.ref l, .ref b, rawInt i, rawInt 3], []⟩) (FinOf prog w A R) (fun e s' => R (.error e) s') s := by
  obtain ⟨xs, ys, m, m2, ex, ey, zx, zy, one⟩ := hl _ _ h
  have bx : i < xs.size := zx ▸ hi
  have by_ : i < ys.size := zy ▸ hi
  have o1 : xs[((i : Nat) : Int).toNat]? = some xs[i] := by simp [bx]
  have o2 : ys[((i : Nat) : Int).toNat]? = some ys[i] := by simp [by_]
  have run := one bx by_
  have c1 : ((i + 1 : Nat) : Int) = (i : Int) + 1 := rfl
  obtain ⟨hp, g, d, tk, os⟩ := s
  wp_walk using wpAny_loadPart' ex, wpAny_loadPart' ey
  rw [o1, o2]
  refine wpAny_bind (wpAny_mono run (fun r s2 z => ?_) fun _ _ x => x)
  obtain ⟨rfl, z⟩ := z
  have more := go s2 z
  rw [c1] at more
  obtain ⟨hp2, g2, d2, tk2, os2⟩ := s2
  wp_walk
  exact ⟨plainId_quiet plain_eq_loop _, codeAny_builtin entry_eq_loop ((Around.under_plainId plain_eq_loop _).symm ▸ more)⟩
theorem ne_from {l b : Addr} {N : Nat} {I : Nat → Shared → Prop} (hl : ListI prog w A (fun e s' => R (.error e) s') l b N I) (fin : ∀ s, I N s → R (.ok (.ret (.bool false))) s) (k : Nat) :
    ∀ i : Nat, i + k = N → ∀ s, I i s → wpAny (model prog w) A.in1 (Builtin.«list.__eq__.loop» ⟨[.ref l, .ref b, rawInt i, rawInt 3], []⟩) (FinOf prog w A R) (fun e s' => R (.error e) s') s := by
  induction k with
  | zero =>
    intro i hi s h
    obtain rfl : i = N := hi
    exact ne_stop hl h (fin s h)
  | succ k ih => exact fun i hi s h => ne_turn hl (by omega) h fun s2 z => ih (i + 1) (by omega) s2 z
theorem list_neG (l b : Addr) (N : Nat) (I : Nat → Shared → Prop) (hl : ListI prog w A (fun e s' => R (.error e) s') l b N I)
    (fin : ∀ s, I N s → R (.ok (.ret (.bool false))) s) {s : Shared} (h : I 0 s) :
    wpAny (model prog w) A.in1 (Builtin.«list.__ne__» ⟨[.ref l, .ref b], []⟩) (FinOf prog w A R) (fun e s' => R (.error e) s') s := by
  obtain ⟨items, items2, n, n2, hl1, hb1, hs1, hs2, _⟩ := hl _ _ h
  have hrec := ne_from (A := A) (R := R) hl fin N 0 (Nat.zero_add N) s h
  obtain ⟨hp, g, d, tk, os⟩ := s
  have f3 := AutoSeq1.sub_list_list
  have hne : ¬ (items.size != items2.size) = true := by simp [hs1, hs2]
  wp_walk using wpAny_loadPart' hl1, wpAny_loadPart' hb1
  exact ⟨plainId_quiet plain_eq_loop _, codeAny_builtin entry_eq_loop (by
    rw [Around.under_plainId plain_eq_loop _]
    exact hrec)⟩
end
section
variable {prog : Program} {w : World} {A : Around} {E : Value → Shared → Prop} {s : Shared}
theorem rc_listN {l b : Addr} {N : Nat} {Q : Value → Shared → Prop} (hu : A.units < cLine) (I : Nat → Shared → Prop) (hl : ListI prog w A E l b N I)
    (fin : ∀ s, I N s → Q (.bool false) s) (h : I 0 s) : wpAny (model prog w) A (richCompare .NotEq (.ref l) (.ref b)) Q E s := by
  obtain ⟨items, items2, n, n2, hl1, hb1, _, _, _⟩ := hl _ _ h
  refine wpAny_richCompare_same_room (op := .NotEq) ⟨_, hl1, rfl⟩ ⟨_, hb1, rfl⟩ F.slot_list_ne (call_here F.slot_list_ne ⟨_, hl1, rfl⟩ F.entry_list_ne (F.args_list_ne_2 _ _) ?_) hu
  exact list_neG (R := wants (fun v s' => v ≠ .notImplemented ∧ Q v s') E) l b N I hl (fun s' q => ⟨(fun x => nomatch x), fin s' q⟩) h
end
end GR

set_option Elab.async false
set_option linter.all false
set_option maxRecDepth 100000
set_option maxHeartbeats 8000000
set_option autoImplicit false
/-! == and != of two values of one tree: the readings. -/
namespace DL
open PySem PySem.Spec PyProof.Rows L2
section
variable {X : Cx} {M : LK} {W : WX} {U : Nat → Around → Prop}
/-- how things stand behind a comparison -/
def StG (X : Cx) (M : LK) (pins : List (Addr × Obj)) (σ : L2.St) (pn : Addr) (G H : Hp) (n : NS) (s' : Shared) : Prop := ∃ H' G', Inv X pins σ H' s' ∧ Adv pn G H G' H' ∧ Rep M pn G' n [] [] H'
/-- where a comparison may run -/
structure Under (U : Nat → Around → Prop) : Prop where
  in1 : ∀ {n : Nat} {A : Around}, U (n + 1) A → U n A.in1
  mono : ∀ {n m : Nat} {A : Around}, U n A → m ≤ n → U m A
  un : ∀ {n : Nat} {A : Around}, U n A → A.units < cLine
theorem under_sub : Under (L2.Sub X) := ⟨fun s => s.in1, fun s h => s.mono h, fun s => s.room.units0⟩
/-- the own == of C runs there -/
def RunsE (X : Cx) (M : LK) (U : Nat → Around → Prop) (k : Nat) (C : Addr) (s : DSp) : Prop := ∃ f, OB.EqC X.K C f ∧ ∀ (A : Around) (Q : VK) (us : List Value) (vs : List V) (pins : List (Addr × Obj)) (σ : L2.St) (H : Hp) (s0 : Shared),
  U k A → Inv X pins σ H s0 → Vals vs us → lift M 2 s vs H Q OB.noE → wpAny (model X.prog X.w) A (call (.ref f) us) (EP X pins σ Q) X.xe s0
theorem EqD.runs {k : Nat} {C : Addr} {s : DSp} (c : EqD X.prog X.w X.K X.mg X.base M k C s) : RunsE X M (L2.Sub X) k C s := by
  obtain ⟨f, fd, ps, ec, F, b⟩ := c.ex
  exact ⟨f, ec, fun A Q us vs pins σ H s0 u I r h => OB.below F b u.room u.fr OB.passNo I r h⟩
def RunsEs (X : Cx) (M : LK) (U : Nat → Around → Prop) (k : Nat) (Cs : List (Addr × DSp)) : Prop := ∀ p ∈ Cs, ∃ j, j ≤ k ∧ RunsE X M U j p.1 p.2
def SameB (X : Cx) (M : LK) (U : Nat → Around → Prop) (j : Nat) (d : D) : Prop := ∀ (A : Around) (pins : List (Addr × Obj)) (s : Shared) (σ : L2.St) (H : Hp) (x y : V) (u v : Value) (pn : Addr) (G : Hp) (n : NS), U j A → Inv X pins σ H s → RelV x u → RelV y v → Rep M pn G n [] [] H → Is M G x d → Is M G y d →
  wpAny (model X.prog X.w) A (eqBool u v) (fun r s' => r = true ∧ StG X M pins σ pn G H n s') X.xe s
def SameR (X : Cx) (M : LK) (U : Nat → Around → Prop) (j : Nat) (d : D) : Prop := ∀ (A : Around) (pins : List (Addr × Obj)) (s : Shared) (σ : L2.St) (H : Hp) (x y : V) (u v : Value) (pn : Addr) (G : Hp) (n : NS), U j A → Inv X pins σ H s → RelV x u → RelV y v → Rep M pn G n [] [] H → Is M G x d → Is M G y d →
  wpAny (model X.prog X.w) A (richCompare .Eq u v) (fun r s' => r = .bool true ∧ StG X M pins σ pn G H n s') X.xe s
def SameN (X : Cx) (M : LK) (U : Nat → Around → Prop) (j : Nat) (d : D) : Prop := ∀ (A : Around) (pins : List (Addr × Obj)) (s : Shared) (σ : L2.St) (H : Hp) (x y : V) (u v : Value) (pn : Addr) (G : Hp) (n : NS), U j A → Inv X pins σ H s → RelV x u → RelV y v → Rep M pn G n [] [] H → Is M G x d → Is M G y d →
  wpAny (model X.prog X.w) A (richCompare .NotEq u v) (fun r s' => r = .bool false ∧ StG X M pins σ pn G H n s') X.xe s
def flatS : D → Bool
  | .non => true
  | .bl _ => true
  | .int _ => true
  | .str _ => true
  | _ => false
theorem same_flat {j : Nat} {d : D} (h : flatS d = true) : SameB X M U j d := by
  intro A pins s σ H x y u v pn G n sb I rx ry R ix iy
  have fin : flatV x = true → flatV y = true → eqV x y = true → wpAny (model X.prog X.w) A (eqBool u v) (fun r s' => r = true ∧ StG X M pins σ pn G H n s') X.xe s := fun h1 h2 h3 => by
    have q := eqAt_V (A := A) (s := s) rx ry h1 h2
    rw [h3] at q
    exact q X.prog X.w X.xe _ ⟨rfl, H, G, I, Adv.refl, R⟩
  cases d <;> simp only [flatS, Bool.false_eq_true] at h <;> simp only [Is] at ix iy <;> subst ix <;> subst iy <;> exact fin rfl rfl (by simp [eqV])
theorem SameR.toB {j : Nat} {d : D} (h : SameR X M U j d) (hr : ∀ (G : Hp) (x : V), Is M G x d → ∃ a, x = .ref a) : SameB X M U j d := by
  intro A pins s σ H x y u v pn G n sb I rx ry R ix iy
  obtain ⟨a, rfl⟩ := hr _ _ ix
  obtain ⟨b, rfl⟩ := hr _ _ iy
  cases rx
  cases ry
  by_cases hab : a = b
  · subst hab
    exact SeqAt.EqAt.same (A := A) (s := s) (.ref a) X.prog X.w X.xe _ ⟨rfl, H, G, I, Adv.refl, R⟩
  · refine GQ.eqBool_refG hab (wpAny_mono (h A pins s σ H (.ref a) (.ref b) _ _ pn G n sb I rfl rfl R ix iy) (fun r s' q => ?_) fun _ _ x => x)
    obtain ⟨hr', q⟩ := q
    exact ⟨true, hr', rfl, q⟩
theorem turnS (hU : Under U) {j : Nat} {ds : List D} (h : ∀ d ∈ ds, SameB X M U j d) {A : Around} (sb : U (j + 1) A) {pins : List (Addr × Obj)} {σ : L2.St} {G H : Hp} {pn : Addr} {n : NS} {xs ys : List V} {its its2 : List Value} (ia : IsL M G xs ds) (ib : IsL M G ys ds) (r : Vals xs its) (r2 : Vals ys its2)
    (i : Nat) (h1 : i < its.toArray.size) (h2 : i < its2.toArray.size) (s' : Shared) (q : StG X M pins σ pn G H n s') :
    wpAny (model X.prog X.w) A.in1 (eqBool its.toArray[i] its2.toArray[i]) (fun r s2 => r = true ∧ StG X M pins σ pn G H n s2) X.xe s' := by
  obtain ⟨H1, G1, I1, A1, R1⟩ := q
  have g1 : its[i]? = some its.toArray[i] := by
    have h1' : i < its.length := by simpa using h1
    rw [List.getElem?_eq_getElem h1'] <;> simp
  have g2 : its2[i]? = some its2.toArray[i] := by
    have h2' : i < its2.length := by simpa using h2
    rw [List.getElem?_eq_getElem h2'] <;> simp
  have k1 : i < xs.length := by rw [r.length]; simpa using h1
  have kd : i < ds.length := by rw [← ia.length]; exact k1
  obtain ⟨x, hx, ix⟩ := ia.get (List.getElem?_eq_getElem kd)
  obtain ⟨y, hy, iy⟩ := ib.get (List.getElem?_eq_getElem kd)
  obtain ⟨u, hu, ru⟩ := r.get hx
  obtain ⟨v, hv, rv⟩ := r2.get hy
  rw [g1] at hu
  rw [g2] at hv
  rw [Option.some.inj hu, Option.some.inj hv]
  refine wpAny_mono (h _ (List.getElem_mem kd) A.in1 pins s' σ H1 x y u v pn G1 n (hU.in1 sb) I1 ru rv R1 (Is.up A1.ge _ _ ix) (Is.up A1.ge _ _ iy)) (fun r s2 q => ?_) fun _ _ x => x
  obtain ⟨hr, H2, G2, I2, A2, R2⟩ := q
  exact ⟨hr, H2, G2, I2, A1.trans A2, R2⟩
theorem lists_at (hU : Under U) {j : Nat} {ds : List D} (h : ∀ d ∈ ds, SameB X M U j d) {A : Around} (sb : U (j + 1) A) {pins : List (Addr × Obj)} {σ : L2.St} {G H : Hp} {pn : Addr} {n : NS} {xs ys : List V} {a b : Addr} (ga : G a = some (.lst xs)) (gb : G b = some (.lst ys)) (ia : IsL M G xs ds) (ib : IsL M G ys ds) :
    GQ.ListI X.prog X.w A X.xe a b xs.length fun _ s' => StG X M pins σ pn G H n s' := by
  intro i s' q
  obtain ⟨H1, G1, I1, A1, R1⟩ := id q
  obtain ⟨z, its, k, r, e⟩ := I1.hok a _ (R1.ex _ _ (A1.ge _ _ ga))
  obtain ⟨z2, its2, k2, r2, e2⟩ := I1.hok b _ (R1.ex _ _ (A1.ge _ _ gb))
  exact ⟨its.toArray, its2.toArray, k, k2, e, e2, by rw [List.size_toArray, ← r.length], by rw [List.size_toArray, ← r2.length, ib.length, ia.length], fun h1 h2 => turnS hU h sb ia ib r r2 i h1 h2 s' q⟩
theorem same_lst (hU : Under U) {j : Nat} {ds : List D} (h : ∀ d ∈ ds, SameB X M U j d) : SameR X M U (j + 1) (.lst ds) := by
  intro A pins s σ H x y u v pn G n sb I rx ry R ix iy
  simp only [Is] at ix iy
  obtain ⟨a, xs, rfl, ga, ia⟩ := ix
  obtain ⟨b, ys, rfl, gb, ib⟩ := iy
  cases rx
  cases ry
  exact GQ.rc_listG (N := xs.length) (hU.un sb) (fun _ s' => StG X M pins σ pn G H n s') (lists_at hU h sb ga gb ia ib) (fun s' q => ⟨rfl, q⟩) ⟨H, G, I, Adv.refl, R⟩
theorem same_lstN (hU : Under U) {j : Nat} {ds : List D} (h : ∀ d ∈ ds, SameB X M U j d) : SameN X M U (j + 1) (.lst ds) := by
  intro A pins s σ H x y u v pn G n sb I rx ry R ix iy
  simp only [Is] at ix iy
  obtain ⟨a, xs, rfl, ga, ia⟩ := ix
  obtain ⟨b, ys, rfl, gb, ib⟩ := iy
  cases rx
  cases ry
  exact GR.rc_listN (N := xs.length) (hU.un sb) (fun _ s' => StG X M pins σ pn G H n s') (lists_at hU h sb ga gb ia ib) (fun s' q => ⟨rfl, q⟩) ⟨H, G, I, Adv.refl, R⟩
theorem same_tup (hU : Under U) (hK : X.K = M.L.K) {j : Nat} {ds : List D} (h : ∀ d ∈ ds, SameB X M U j d) : SameR X M U (j + 1) (.tup ds) := by
  intro A pins s σ H x y u v pn G n sb I rx ry R ix iy
  simp only [Is] at ix iy
  obtain ⟨a, xs, rfl, ga, ia⟩ := ix
  obtain ⟨b, ys, rfl, gb, ib⟩ := iy
  cases rx
  cases ry
  obtain ⟨its, r, e, z⟩ := I.tuple (hK ▸ Ext.seqT R.ex ga)
  obtain ⟨its2, r2, e2, z2⟩ := I.tuple (hK ▸ Ext.seqT R.ex gb)
  have hsz : its.toArray.size = its2.toArray.size := by rw [List.size_toArray, List.size_toArray, ← r.length, ← r2.length, ia.length, ib.length]
  exact GQ.rc_tupG hsz (hU.un sb) (fun _ s' => StG X M pins σ pn G H n s') e e2 (fun i h1 h2 s' q => turnS hU h sb ia ib r r2 i h1 h2 s' q) (fun s' q => ⟨rfl, q⟩) ⟨H, G, I, Adv.refl, R⟩
theorem same_ins (hU : Under U) {k : Nat} {C : Addr} {s : DSp} {ns : List Str} {xs : List D} (c : RunsE X M U k C s) (hs : ∀ (n : NS) (q : D → NS → Prop) (e : DY), q (.bl true) n → s [.ins C ns xs, .ins C ns xs] n q e) : SameR X M U k (.ins C ns xs) := by
  intro A pins s0 σ H x y u v pn G n sb I rx ry R ix iy
  obtain ⟨f, ec, run⟩ := c
  have ix' := ix
  have iy' := iy
  simp only [Is] at ix' iy'
  obtain ⟨a, dx, fs, rfl, ga, _, _⟩ := ix'
  obtain ⟨a2, dx2, fs2, rfl, ga2, _, _⟩ := iy'
  cases rx
  cases ry
  obtain ⟨mA, J, _⟩ := ins_get I.hok (R.ex _ _ ga)
  obtain ⟨mB, J', _⟩ := ins_get I.hok (R.ex _ _ ga2)
  obtain ⟨od, J, _⟩ := J.look
  obtain ⟨od', J', _⟩ := J'.look
  obtain ⟨m, hF⟩ := I.fr
  refine PySem.W.cmp_K (op := .Eq) (tb := .ref C) (hU.un sb) hF I.ok.mod.kin J J'.type (by simp [PySem.W.notFirst]) ec.eq ec.fn ?_
  have hsp : lift M 2 s [.ref a, .ref a2] H (fun v H' => v = .bl true ∧ ∃ G', Adv pn G H G' H' ∧ Rep M pn G' n [] [] H') OB.noE :=
    ⟨pn, G, n, [.ins C ns xs, .ins C ns xs], (fun d n' => d = .bl true ∧ n' = n), (fun _ _ _ _ => False), R, by simp only [IsL]; exact ⟨ix, iy, trivial⟩, rfl, hs _ _ _ ⟨rfl, rfl⟩,
      fun G' v d n' H' A' R' i' h' => by
        obtain ⟨rfl, rfl⟩ := h'
        simp only [Is] at i'
        exact ⟨i', G', A', R'⟩, fun _ _ _ _ _ _ _ _ _ _ z => z.elim⟩
  refine wpAny_mono (run A _ [.ref a, .ref a2] [.ref a, .ref a2] pins σ H s0 sb I (.cons rfl (.cons rfl .nil)) hsp) (fun w s' q => ?_) fun _ _ z => z
  obtain ⟨z, H', I', rz, ez, G', A', R'⟩ := q
  subst ez
  cases (show w = Value.bool true from rz)
  exact ⟨rfl, H', G', I', A', R'⟩
/-- two values of this tree are equal -/
def SmD (Cs : List (Addr × DSp)) : Nat → D → Prop
  | m + 1, .lst ds => ∀ d ∈ ds, SmD Cs m d
  | m + 1, .tup ds => ∀ d ∈ ds, SmD Cs m d
  | _, .ins C ns xs => ∃ s, (C, s) ∈ Cs ∧ ∀ (n : NS) (q : D → NS → Prop) (e : DY), q (.bl true) n → s [.ins C ns xs, .ins C ns xs] n q e
  | _, d => flatS d = true
/-- the own == of these classes -/
def EqDs (P : Program) (w : World) (K : PySem.W.Frag) (mg : Str → Option Value) (base : Heap) (M : LK) (k : Nat) (Cs : List (Addr × DSp)) : Prop := ∀ p ∈ Cs, ∃ j, j ≤ k ∧ EqD P w K mg base M j p.1 p.2
theorem eqDs_nil {P : Program} {w : World} {K : PySem.W.Frag} {mg : Str → Option Value} {base : Heap} {k : Nat} : EqDs P w K mg base M k [] := fun p h => by cases h
theorem eqDs_cons {P : Program} {w : World} {K : PySem.W.Frag} {mg : Str → Option Value} {base : Heap} {k j : Nat} {C : Addr} {s : DSp} {Cs : List (Addr × DSp)} (c : EqD P w K mg base M j C s) (hj : j ≤ k) (h : EqDs P w K mg base M k Cs) : EqDs P w K mg base M k ((C, s) :: Cs) := fun p hp => by
  rcases List.mem_cons.mp hp with rfl | hp
  · exact ⟨j, hj, c⟩
  · exact h p hp
theorem SameR.mono (hU : Under U) {j k : Nat} {d : D} (h : SameR X M U j d) (hk : j ≤ k) : SameR X M U k d := fun A pins s σ H x y u v pn G n sb => h A pins s σ H x y u v pn G n (hU.mono sb hk)
theorem EqDs.runs {k : Nat} {Cs : List (Addr × DSp)} (hc : EqDs X.prog X.w X.K X.mg X.base M k Cs) : RunsEs X M (L2.Sub X) k Cs := fun p hp => by
  obtain ⟨j, hj, c⟩ := hc p hp
  exact ⟨j, hj, c.runs⟩
theorem same_d (hU : Under U) (hK : X.K = M.L.K) {k : Nat} {Cs : List (Addr × DSp)} (hc : RunsEs X M U k Cs) : ∀ (m : Nat) (d : D), SmD Cs m d → SameB X M U (k + m) d ∧ (flatS d = false → SameR X M U (k + m) d) := by
  have ins : ∀ (m : Nat) (C : Addr) (ns : List Str) (xs : List D), (∃ s, (C, s) ∈ Cs ∧ ∀ (n : NS) (q : D → NS → Prop) (e : DY), q (.bl true) n → s [.ins C ns xs, .ins C ns xs] n q e) → SameB X M U (k + m) (.ins C ns xs) ∧ (flatS (.ins C ns xs) = false → SameR X M U (k + m) (.ins C ns xs)) := fun m C ns xs ⟨s, hm, hs⟩ => by
    obtain ⟨j, hj, c⟩ := hc _ hm
    have r := (same_ins hU c hs).mono hU (Nat.le_trans hj (Nat.le_add_right k m))
    exact ⟨r.toB fun G x ix => (by simp only [Is] at ix; obtain ⟨a, _, _, rfl, _⟩ := ix; exact ⟨a, rfl⟩), fun _ => r⟩
  intro m
  induction m with
  | zero =>
    intro d h
    cases d with
    | ins C ns xs => exact ins 0 C ns xs h
    | non => exact ⟨same_flat rfl, fun c => (by cases c)⟩
    | bl b => exact ⟨same_flat rfl, fun c => (by cases c)⟩
    | int i => exact ⟨same_flat rfl, fun c => (by cases c)⟩
    | str l => exact ⟨same_flat rfl, fun c => (by cases c)⟩
    | _ => simp [SmD, flatS] at h
  | succ m ih =>
    intro d h
    cases d with
    | ins C ns xs => exact ins (m + 1) C ns xs h
    | non => exact ⟨same_flat rfl, fun c => (by cases c)⟩
    | bl b => exact ⟨same_flat rfl, fun c => (by cases c)⟩
    | int i => exact ⟨same_flat rfl, fun c => (by cases c)⟩
    | str l => exact ⟨same_flat rfl, fun c => (by cases c)⟩
    | lst ds =>
      have r : SameR X M U (k + (m + 1)) (.lst ds) := same_lst hU fun d hd => (ih d (h d hd)).1
      exact ⟨r.toB fun G x ix => (by simp only [Is] at ix; obtain ⟨a, _, rfl, _⟩ := ix; exact ⟨a, rfl⟩), fun _ => r⟩
    | tup ds =>
      have r : SameR X M U (k + (m + 1)) (.tup ds) := same_tup hU hK fun d hd => (ih d (h d hd)).1
      exact ⟨r.toB fun G x ix => (by simp only [Is] at ix; obtain ⟨a, _, rfl, _⟩ := ix; exact ⟨a, rfl⟩), fun _ => r⟩
    | _ => simp [SmD, flatS] at h
/-- as a relation of values -/
def rSm (M : LK) (Cs : List (Addr × DSp)) (b : Bool) : R2 := fun x y H Q => ∃ (pn : Addr) (G : Hp) (n : NS) (d : D), Rep M pn G n [] [] H ∧ Is M G x d ∧ Is M G y d ∧ SmD Cs 6 d ∧ flatS d = false ∧ (b = false → ∃ ds, d = .lst ds) ∧ ∀ G' H', Adv pn G H G' H' → Rep M pn G' n [] [] H' → Q (.bl b) H'
theorem op_sm (hU : Under U) (hK : X.K = M.L.K) {k j : Nat} {Cs : List (Addr × DSp)} (hc : RunsEs X M U k Cs) (hr : U j X.A) (hj : k + 6 ≤ j) : OpR X (compareOp .Eq) (rSm M Cs true) := by
  intro pins s σ H x y v u Q I rx ry ⟨pn, G, n, d, R, ix, iy, hs, hf, _, q⟩
  show wpAny (model X.prog X.w) X.A (richCompare .Eq v u) (EP X pins σ Q) X.xe s
  refine wpAny_mono (((same_d hU hK hc 6 d hs).2 hf) X.A pins s σ H x y v u pn G n (hU.mono hr hj) I rx ry R ix iy) (fun r s' z => ?_) fun _ _ x => x
  obtain ⟨hr', H', G', I', A', R'⟩ := z
  subst hr'
  exact ⟨.bl true, H', I', rfl, q G' H' A' R'⟩
theorem op_smN (hU : Under U) (hK : X.K = M.L.K) {k j : Nat} {Cs : List (Addr × DSp)} (hc : RunsEs X M U k Cs) (hr : U j X.A) (hj : k + 6 ≤ j) : OpR X (compareOp .NotEq) (rSm M Cs false) := by
  intro pins s σ H x y v u Q I rx ry ⟨pn, G, n, d, R, ix, iy, hs, hf, hl, q⟩
  obtain ⟨ds, rfl⟩ := hl rfl
  show wpAny (model X.prog X.w) X.A (richCompare .NotEq v u) (EP X pins σ Q) X.xe s
  refine wpAny_mono ((same_lstN hU (j := k + 5) fun d hd => (same_d hU hK hc 5 d (hs d hd)).1) X.A pins s σ H x y v u pn G n (hU.mono hr hj) I rx ry R ix iy) (fun r s' z => ?_) fun _ _ x => x
  obtain ⟨hr', H', G', I', A', R'⟩ := z
  subst hr'
  exact ⟨.bl false, H', I', rfl, q G' H' A' R'⟩
/-- x == y: plain values, or two of one tree -/
def gEqS (Cs : List (Addr × DSp)) : GR2 := fun x y n q => match flatS x with
  | true => eqD x y fun b => q (.bl b) n
  | false => y = x ∧ SmD Cs 6 x ∧ q (.bl true) n
/-- x != y: plain values, or two lists of one tree -/
def gNeS (Cs : List (Addr × DSp)) : GR2 := fun x y n q => match x with
  | .lst ds => y = .lst ds ∧ SmD Cs 6 (.lst ds) ∧ q (.bl false) n
  | x => eqD x y fun b => q (.bl (!b)) n
theorem op_eqS (hK : X.K = M.L.K) {k j : Nat} {Cs : List (Addr × DSp)} (hc : EqDs X.prog X.w X.K X.mg X.base M k Cs) (hr : Room j X.A) (hj : k + 6 ≤ j) : OpR X (compareOp .Eq) (fun x y H Q => (rEq x y H Q ∨ rEqD M.L.K x y H Q) ∨ rSm M Cs true x y H Q) :=
  OpR.or (op_eqX hK (by have := hr.un; omega)) (op_sm under_sub hK hc.runs ⟨hr, rfl⟩ hj)
theorem op_neS (hK : X.K = M.L.K) {k j : Nat} {Cs : List (Addr × DSp)} (hc : EqDs X.prog X.w X.K X.mg X.base M k Cs) (hr : Room j X.A) (hj : k + 6 ≤ j) : OpR X (compareOp .NotEq) (fun x y H Q => (rNe x y H Q ∨ rNeD M.L.K x y H Q) ∨ rSm M Cs false x y H Q) :=
  OpR.or (op_neX hK (by have := hr.un; omega)) (op_smN under_sub hK hc.runs ⟨hr, rfl⟩ hj)
theorem dr_eqS {Cs : List (Addr × DSp)} : DR2 M (fun x y H Q => (rEq x y H Q ∨ rEqD M.L.K x y H Q) ∨ rSm M Cs true x y H Q) (gEqS Cs) := by
  intro pn G n σ δ H v u x y q Q R ix iy h k
  unfold gEqS at h
  split at h
  · exact .inl (dr_eq pn G n σ δ H v u _ y q Q R ix iy h k)
  · rename_i hf
    obtain ⟨rfl, hs, h⟩ := h
    exact .inr ⟨pn, G, n, _, R.bare, ix, iy, hs, hf, fun c => (by cases c), fun G' H' A' R' => k G' _ (.bl true) n H' A' (R.back R' A') (by simp only [Is]) h⟩
theorem dr_neS {Cs : List (Addr × DSp)} : DR2 M (fun x y H Q => (rNe x y H Q ∨ rNeD M.L.K x y H Q) ∨ rSm M Cs false x y H Q) (gNeS Cs) := by
  intro pn G n σ δ H v u x y q Q R ix iy h k
  cases x with
  | lst ds =>
    obtain ⟨rfl, hs, h⟩ := h
    exact .inr ⟨pn, G, n, _, R.bare, ix, iy, hs, rfl, fun _ => ⟨_, rfl⟩, fun G' H' A' R' => k G' _ (.bl false) n H' A' (R.back R' A') (by simp only [Is]) h⟩
  | _ => exact .inl (dr_ne pn G n σ δ H v u _ y q Q R ix iy (by simpa only [gNeS, gNe] using h) k)
end
end DL

set_option Elab.async false
set_option linter.all false
set_option maxRecDepth 100000
set_option maxHeartbeats 8000000
set_option autoImplicit false
/-! A def that calls what it got and has a second parameter. -/
namespace LamX
open PySem PySem.Spec PyProof.Rows L2
def GivesS2 (X : Cx) (Ng : List Str) (x : Str) (sg : Scope) (g : Addr) (cdg : Value) (bg : List Stmt) (a : Str) (q : Str) (TT : (XK → Hp → VK → Prop) → V → Hp → VK → Prop) : Prop :=
  ∀ (f c' : Addr) (v2 : V) (s : Shared) (H : Hp) (Q : VK) (tl : XK → Hp → VK → Prop),
    (∀ (W : WX) (pn : List (Addr × Obj)) (xe : Value → Shared → Prop) (p1 p2 : Pos), Takes ((cxOf C8.CX0 X.prog X.w X.K X.mg X.base Ng x sg g cdg X.A X.stack s H C8.E0).tr pn xe) W →
      PE ((cxOf C8.CX0 X.prog X.w X.K X.mg X.base Ng x sg g cdg X.A X.stack s H C8.E0).tr pn xe) (.Call (.Name a p1) [] [] p2) (fun σZ HZ Q => σZ[0]? = some (some (.ref f)) ∧ HZ c' = some (CodeO c' q) ∧ tl (WE W σZ) HZ Q)) →
    H c' = some (CodeO c' q) → TT tl v2 H Q →
    ∃ t, PSs (cxOf C8.CX0 X.prog X.w X.K X.mg X.base Ng x sg g cdg X.A X.stack s H C8.E0).nox bg t ∧ t { nx := fun _ H' => Q .non H', rt := Q } (L2.start Ng [.ref f, v2]) H
end LamX
namespace DL
open PySem PySem.Spec PyProof.Rows L2
def TTd2 (M : LK) (told : D → DTold) : (XK → Hp → VK → Prop) → V → Hp → VK → Prop := fun tl v2 H Q => ∃ (fb : DTE) (pn : Addr) (G : Hp) (n : NS) (σ : L2.St) (δ : DEnv) (qd : D → NS → Prop) (y : D),
  (∀ (E : XK) (H' : Hp) (Q' : VK), liftE M (fun cls d _ H' => E cls d H') fb σ H' Q' → tl E H' Q') ∧ Rep M pn G n σ δ H ∧ IsE M G σ δ ∧ Is M G v2 y ∧ told y (fun n' q' y' => fb δ n' q' fun _ => y') n qd ∧
  ∀ G' v d n' H', Adv pn G H G' H' → Rep M pn G' n' [] [] H' → Is M G' v d → qd d n' → Q v H'
/-- told(x, y) in a comprehension: x is one of the first m lambdas of L, whose readings are fbs -/
def dToldV2 (told : D → DTold) (m : Nat) (L : Nat → Src) (fr : List (Str × Addr)) (fbs : Nat → DTE) (vs : List Nat) (fe fv : DTE) : DTE := fun δ n q e =>
  fe δ n (fun x n1 => fv δ n1 (fun y n2 => ∃ i, i < m ∧ x = .fn (L i) fr ∧ told y (fun n' q' y' => fbs i (wipeD δ vs) n' q' fun _ => y') n2 q) e) e
section
variable {X : Cx} {M : LK} {W : WX}
theorem gives_D2 {Ng : List Str} {x a q : Str} {sg : Scope} {g : Addr} {cdg : Value} {bg : List Stmt} {told : D → DTold} (tb : Addr → Addr → List (Option V) → DEnv → DTE → DTS) (hN : 2 ≤ Ng.length)
    (hb : ∀ (s : Shared) (H : Hp) (f c : Addr) (σ : List (Option V)) (δ : DEnv) (fb : DTE), (∀ (W : WX) (pn : List (Addr × Obj)) (xe : Value → Shared → Prop) (p1 p2 : Pos), Takes ((cxOf C8.CX0 X.prog X.w X.K X.mg X.base Ng x sg g cdg X.A X.stack s H C8.E0).tr pn xe) W →
      PE ((cxOf C8.CX0 X.prog X.w X.K X.mg X.base Ng x sg g cdg X.A X.stack s H C8.E0).tr pn xe) (.Call (.Name a p1) [] [] p2) (liftE M W (dAct 0 f c q σ δ fb))) →
      PSs (cxOf C8.CX0 X.prog X.w X.K X.mg X.base Ng x sg g cdg X.A X.stack s H C8.E0).nox bg (liftS M W0 (tb f c σ δ fb)))
    (hs : ∀ f c σ δ fb y n qd, told y (fun n' q' y' => fb δ n' q' fun _ => y') n qd → tb f c σ δ fb { nx := fun _ n' => qd .non n', rt := qd } (startD Ng [.thk f c q σ δ, y]) n) :
    LamX.GivesS2 X Ng x sg g cdg bg a q (TTd2 M told) := by
  intro f c v2 s H Q tl act hc h
  obtain ⟨fb, pn, G, n, σ, δ, qd, y, htl, R, hE, hy, ht, hQ⟩ := h
  obtain ⟨G1, R1, A1, g1⟩ := R.know hc
  refine ⟨_, hb s H f c σ δ fb fun W pn xe p1 p2 tk => dp_act (act W pn xe p1 p2 tk) htl, ?_⟩
  have hi : IsL M G1 [.ref f, v2] [.thk f c q σ δ, y] := by
    simp only [IsL, Is]
    exact ⟨⟨trivial, g1, IsE.up A1.ge δ σ hE⟩, Is.up A1.ge _ _ hy, trivial⟩
  refine ⟨pn, G1, n, _, _, R1.bare.start hi, hs f c σ δ fb y n qd ht, ⟨fun G' σ' δ' n' H' A' R' h' => ?_, fun G' σ' δ' v d n' H' A' R' i' h' => ?_, fun G' σ' δ' n' H' A' R' h' => h'.elim, fun G' σ' δ' n' H' A' R' h' => h'.elim, fun G' σ' δ' C a ns ds n' H' A' R' _ h' => h'.elim⟩⟩
  · exact hQ G' .non .non n' H' (R.tr A1 A') R'.bare (by simp only [Is]) h'
  · exact hQ G' v d n' H' (R.tr A1 A') R'.bare i' h'
theorem item_told2 {scope : Scope} {vs : List Nat} {x a b : Str} {cT : Addr} {k m : Nat} {stT : Stmt} {Ng : List Str} {p pos : Pos} {arg arg2 : Expr} {told : D → DTold} {L : Nat → Src} {fbs : Nat → DTE} {fe fv : DTE}
    (Df : DefC X.K X.mg x stT [a, b] cT) (Sg : FnScope Ng [a, b] (defScope stT)) (hNg : Ng[0]? = some a) (hva : Vis (defScope stT) a) (hG : ∀ (g : Addr) (q : Str), LamX.GivesS2 X Ng x (defScope stT) g (.ref cT) (defBody stT) a q (TTd2 M told)) (hr : Room (k + 2) X.A)
    (hL : ∀ i, i < m → (L i).q = X.env.qual ++ "<lambda>" ∧ LamX.LamS X.env.scope (L i).sc ∧ (∀ (q : Str) (cl : List (Str × Addr)) (pm cv ctv : Value), bindArgs (PySem.W.kla_fn "<lambda>" q (L i).ps (L i).b (L i).sc cl pm cv ctv) ⟨[], []⟩ = pure []) ∧
      ∀ (A : Around) (outer : List Env) (s : Shared) (H : Hp) (E : XK) (f c' : Addr), Room k (A.deeper (LamX.lamEnv X (L i).sc s.heap.objs.size f c')) → PE (LamX.lamCx X A outer s H E (L i).sc f c') (L i).b (liftE M (fun cls d _ H' => E cls d H') (fbs i)))
    (hg : ∀ s H C cl fp, Gl (LcI.Blk X s H scope C cl fp) x) (he : ∀ s H C cl fp, PE (LcI.Blk X s H scope C cl fp) arg (liftE M W0 fe)) (he2 : ∀ s H C cl fp, PE (LcI.Blk X s H scope C cl fp) arg2 (liftE M W0 fv)) (hst : noStar arg = true) (hst2 : noStar arg2 = true)
    (hdb : (x == ("__debug__" : Str)) = false := by decide) (hd : (a == ("__debug__" : Str)) = false := by decide) (hcd : (a == ("__classdict__" : Str)) = false := by decide) :
    LcI.Item X scope vs (.Call (.Name x p) [arg, arg2] [] pos) (liftE M W0 (dToldV2 told m L X.env.cells fbs vs fe fv)) := by
  intro s0 H0 C cl fp p0 σ0 I0 hf pins s σ H Q I hw h
  obtain ⟨g, oc, od, an, osl, dV, kV, doc, pm, ct, lk, hcd2, hmg, kp, bn⟩    := Df.ex
  obtain ⟨pn, G, n, δ, q, e, R, hfe, hQ, hX⟩ := h
  have ha : PA (LcI.Blk X s0 H0 scope C cl fp) [arg, arg2] (liftA M W0 (dCons fe (dCons fv dNil))) := da_cons (he s0 H0 C cl fp) (da_cons (he2 s0 H0 C cl fp) da_nil (starEach_cons hst2)) (starEach_cons hst)
  have hA : liftA M W0 (dCons fe (dCons fv dNil)) σ H fun ws H1 => ∃ (f c : Addr) (i : Nat) (G1 : Hp) (n1 : NS) (v2 : V) (y2 : D), ws = [.ref f, v2] ∧ i < m ∧ Adv pn G H G1 H1 ∧ Rep M pn G1 n1 σ δ H1 ∧ G1 f = some (FunO f c (L i) X.env.cells) ∧ G1 c = some (LamX.CodeO c (L i).q) ∧
      Is M G1 v2 y2 ∧ told y2 (fun n' q' y => fbs i (wipeD δ vs) n' q' fun _ => y) n1 q := by
    refine ⟨pn, G, n, δ, fun ds n1 => ∃ d y2, ds = [d, y2] ∧ ∃ i, i < m ∧ d = .fn (L i) X.env.cells ∧ told y2 (fun n' q' y => fbs i (wipeD δ vs) n' q' fun _ => y) n1 q, e, R, ?_, ?_, hX⟩
    · show fe δ n (fun x n1 => fv δ n1 (fun y2 n2 => ∃ d y3, [x, y2] = [d, y3] ∧ ∃ i, i < m ∧ d = .fn (L i) X.env.cells ∧ told y3 (fun n' q' y => fbs i (wipeD δ vs) n' q' fun _ => y) n2 q) e) e
      have eq1 : (fun (x : D) (n1 : NS) => fv δ n1 (fun y2 n2 => ∃ i, i < m ∧ x = .fn (L i) X.env.cells ∧ told y2 (fun n' q' y => fbs i (wipeD δ vs) n' q' fun _ => y) n2 q) e) = fun x n1 => fv δ n1 (fun y2 n2 => ∃ d y3, [x, y2] = [d, y3] ∧ ∃ i, i < m ∧ d = .fn (L i) X.env.cells ∧ told y3 (fun n' q' y => fbs i (wipeD δ vs) n' q' fun _ => y) n2 q) e := by
        funext x n1
        congr 1
        funext y2 n2
        exact propext ⟨fun h => ⟨x, y2, rfl, h⟩, fun ⟨d, y3, ee, h⟩ => by cases ee; exact h⟩
      rw [← eq1]
      exact hfe
    · intro G1 ws ds n1 H1 A1 R1 i1 h1
      obtain ⟨d, y2, rfl, i, hi, rfl, ht⟩ := h1
      obtain ⟨v, v2, rfl, iv, iv2⟩ := i1.two
      simp only [Is] at iv
      obtain ⟨f, c, rfl, g1, g2⟩ := iv
      exact ⟨f, c, i, G1, n1, v2, y2, rfl, hi, A1, R1, g1, g2, iv2, ht⟩
  refine wpAny_Call_Name_kw (ld_glob I (hg s0 H0 C cl fp) hmg (PySem.W.callWith_K (h₀ := X.base) I.ok.mod.kin kp (thn (ha.run pos pins s σ H _ I hA) fun us s1 ⟨ws, H1, I1, r, z⟩ => ⟨I1.kIn, ?_⟩) (starEach_cons hst) (by
    rw [starEach_cons hst2]
    rfl)) hdb)
  obtain ⟨f, c, i, G1, n1, v2, y2, rfl, hi, A1, R1, g1, g2, iv2, ht⟩ := z
  obtain ⟨uf, uv, rfl, rf, rv⟩ : ∃ uf uv, us = [uf, uv] ∧ L2.RelV (.ref f) uf ∧ L2.RelV v2 uv := by
    cases r with
    | cons rf rn =>
      cases rn with
      | cons rv rn =>
        cases rn
        exact ⟨_, _, rfl, rf, rv⟩
  obtain rfl : uf = Value.ref f := rf
  obtain ⟨lq, lS, lb, lbody⟩ := hL i hi
  have J1 := LcI.back I0 hf I1
  have rc : codeAny (model X.prog X.w) X.A (.call (.ref g) ⟨[.ref f, uv], []⟩) (CR C8.CX0 X.stack X.prog X.w H1 s1 Q C8.E0) s1 := by
    have hTT : TTd2 M told (fun E H' Q' => (∃ c2, H' f = some (FunO f c2 (L i) X.env.cells) ∧ H' c2 = some (LamX.CodeO c2 (L i).q)) ∧ liftE M (fun cls d _ H' => E cls d H') (fbs i) σ0 H' Q') v2 H1 Q := by
      have E0 : EnvIs M G1 σ0 (wipeD δ vs) := R1.env.outer hw
      have hfn : Is M G1 (.ref f) (.fn (L i) X.env.cells) := by
        simp only [Is]
        exact ⟨f, c, rfl, g1, g2⟩
      have E1 : EnvIs M G1 (some (.ref f) :: σ0) (some (.fn (L i) X.env.cells) :: wipeD δ vs) := by
        refine ⟨by simp only [List.length_cons, E0.len], fun j d ej => ?_⟩
        cases j with
        | zero =>
          simp at ej
          subst ej
          exact ⟨_, rfl, hfn⟩
        | succ j => exact E0.at_ j d (by simpa using ej)
      let fb2 : DTE := fun δ2 n q e => ∃ δ0, δ2 = some (.fn (L i) X.env.cells) :: δ0 ∧ fbs i δ0 n q (fun _ => e δ2)
      have efb : ∀ (n' : NS) (q' : D → NS → Prop) (y : DY), fb2 (some (.fn (L i) X.env.cells) :: wipeD δ vs) n' q' (fun _ => y) = fbs i (wipeD δ vs) n' q' (fun _ => y) := by
        intro n' q' y
        apply propext
        constructor
        · rintro ⟨δ0, e0, h0⟩
          cases e0
          exact h0
        · exact fun h0 => ⟨_, rfl, h0⟩
      refine ⟨fb2, pn, G1, n1, some (.ref f) :: σ0, some (.fn (L i) X.env.cells) :: wipeD δ vs, q, y2, ?_, R1.env_of E1, ?_, iv2, ?_, ?_⟩
      · intro E2 H2 Q2 ⟨pn3, G3, n3, δ3, q3, e3, R3, h3, hQ3, hX3⟩
        obtain ⟨δ0, rfl, h3⟩ := h3
        obtain ⟨v, hv1, hv2⟩ := R3.env.at_ 0 _ rfl
        simp at hv1
        subst hv1
        simp only [Is] at hv2
        obtain ⟨f3, c3, ef, k1, k2⟩ := hv2
        cases ef
        refine ⟨⟨c3, R3.ex _ _ k1, R3.ex _ _ k2⟩, ?_⟩
        have E4 : EnvIs M G3 σ0 δ0 := ⟨by simpa using R3.env.len, fun j d ej => by
          obtain ⟨v, h1, h2⟩ := R3.env.at_ (j + 1) d (by simpa using ej)
          exact ⟨v, by simpa using h1, h2⟩⟩
        refine ⟨pn3, G3, n3, δ0, q3, _, R3.env_of E4, h3, fun G' v d n' H' A' R' i' h' => ?_, fun G' C a ns ds n' H' A' R' hx z => ?_⟩
        · have E5 : EnvIs M G' (some (.ref f) :: σ0) (some (.fn (L i) X.env.cells) :: δ0) := R3.env.up A'
          exact hQ3 G' v d n' H' A' (R'.env_of E5) i' h'
        · have E5 : EnvIs M G' (some (.ref f) :: σ0) (some (.fn (L i) X.env.cells) :: δ0) := R3.env.up A'
          exact hX3 G' C a ns ds n' H' A' (R'.env_of E5) hx z
      · exact isE_of E1.len E1.at_
      · simp only [efb]
        exact ht
      · intro G' v d n' H' A' R' i' h'
        exact hQ G' v d n' H' (R.tr A1 A') (R1.back R' A') i' h'
    refine LamX.run_ofS (N := Ng) (ps := [a, b]) (us := [.ref f, uv]) (vs := [.ref f, v2]) lk hcd2 Sg hr J1.env0 (bn s1 [.ref f, uv] J1.kIn rfl) (.cons rfl (.cons rv .nil)) rfl fun hr' => ?_
    obtain ⟨t', ht', hq'⟩ := hG g (L i).q f c v2 s1 H1 Q _
      (fun W pn2 xe p1 p2 tk => PEw (FnV.pe_actX (i := 0) J1 lS lq (fun cl pm cv ctv => lb _ cl pm cv ctv) tk hr' (t := fun E => liftE M (fun cls d _ H' => E cls d H') (fbs i)) (fun A outer s H E f c' hr2 => lbody A outer s H E f c' hr2) hNg hva hd hcd)
        fun σZ HZ Q2 hz => ⟨hz.1, hz.2.2.1, hz.2.2.2⟩) (R1.ex _ _ g2) hTT
    exact ⟨t', ht'.nox, hq'⟩
  refine wpAny_call (codeAny_mono rc fun r s2 hq => ?_)
  cases r with
  | error e => exact (show False from hq).elim
  | ok fl =>
    cases fl with
    | ret u => exact I1.after hq
    | next => exact False.elim hq
    | brk => exact False.elim hq
    | cont => exact False.elim hq
end
end DL

set_option Elab.async false
set_option linter.all false
set_option maxRecDepth 100000
set_option maxHeartbeats 8000000
set_option autoImplicit false
/-! max of a list; tuples that stand at the top. -/
namespace DL
open PySem PySem.Spec PyProof.Rows L2
section
variable {X : Cx} {M : LK} {W : WX}
/-- the greatest of a list of ints -/
def gMaxL : GC := fun xs n q => ∃ is : List Int, xs = [.lst (is.map .int)] ∧ 0 < is.length ∧ ∀ m, m ∈ is → (∀ y, y ∈ is → y ≤ m) → q (.int m) n
theorem drc_maxL (hK : X.K = M.L.K) : DRC M (rMax X.K) gMaxL := by
  rintro pn G n σ δ H vs xs q Q R iv ⟨is, rfl, hl, h⟩ k
  obtain ⟨v, rfl, iw⟩ := iv.one
  simp only [Is] at iw
  obtain ⟨p, us, rfl, h1, h2⟩ := iw
  obtain rfl := IsL.ints h2
  exact ⟨p, is, rfl, SqL.of (R.ex _ _ h1), hl, fun m h3 h4 => k G _ _ n H Adv.refl R (by simp only [Is]) (h m h3 h4)⟩
/-- a tuple of the frozen heap -/
def KTup (K : PySem.W.Frag) (a : Addr) (vs : List V) : Prop := ∃ (o : Obj) (its : Array Value) (n : Nat), K.lookup a = some o ∧ o.cls = .type "tuple" ∧ o.data = .seq its n ∧ its.size ≤ sizeLine ∧ Vals vs its.toList
theorem dp_gt {x : Str} {pos : Pos} {vs : List V} {ds : List D} (h : ∃ a, X.mg x = some (.ref a) ∧ KTup X.K a vs) (hK : X.K = M.L.K) (hi : ∀ G, IsL M G vs ds) (hg : Gl X x) (hd : (x == ("__debug__" : Str)) = false := by decide) : PE X (.Name x pos) (liftE M W (dC (.tup ds))) := by
  obtain ⟨a, hm, k⟩ := h
  refine dp_c (pe_glob (v := .ref a) hg hm rfl hd) fun G => ?_
  simp only [Is]
  exact ⟨a, vs, rfl, .inr (hK ▸ k), hi G⟩
end
end DL

set_option Elab.async false
set_option linter.all false
set_option maxRecDepth 100000
set_option maxHeartbeats 8000000
set_option autoImplicit false
/-! == by own defs where an exception is handled. -/
namespace NH
open PySem PySem.Spec PyProof.Rows L2
/-- a context in which something may be handled -/
def loud (X : Cx) (B : Around) (xe : Value → Shared → Prop) : Cx := { X with A := B, calm := false, xe := xe }
section
variable {X : Cx} {B : Around} {xe : Value → Shared → Prop} {pins : List (Addr × Obj)} {σ : L2.St} {H : Hp} {s : Shared}
theorem ok_loud (h : X.Ok) (hB : B.frames = X.A.frames) : (loud X B xe).Ok where
  mod := h.mod
  kind := h.kind
  glob := h.glob
  blt := h.blt
  above := h.above
  inj := h.inj
  has := h.has
  cab := h.cab
  hd := fun c => Bool.noConfusion (show false = true from c)
  frames := hB.trans h.frames
  stk := h.stk
  exf := h.exf
  bs := h.bs
  bsz := h.bsz
  noex := h.noex
  exfs := h.exfs
  funs := h.funs
  frf := h.frf
theorem inv_loud (I : Inv X pins σ H s) (hB : B.frames = X.A.frames) : Inv (loud X B xe) pins σ H s where
  ok := ok_loud I.ok hB
  os := I.os
  bare := I.bare
  base := I.base
  loc := I.loc
  cell := I.cell
  free := I.free
  freeC := I.freeC
  pin := I.pin
  hok := I.hok
  len := I.len
end
theorem room_in1 {k : Nat} {A : Around} (r : L2H.RoomH (k + 1) A) : L2H.RoomH k A.in1 := by
  let A0 : Around := { A with handled := none }
  have z : Room k A0.in1 := Room.in1 (A := A0) ⟨rfl, r.dp, r.un⟩
  exact ⟨z.dp, z.un⟩
/-- a def's promise, whatever is handled -/
structure FnN (P : Program) (w : World) (K : PySem.W.Frag) (mg : Str → Option Value) (base : Heap) (CX : CXT) (k : Nat) (f : Addr) (fd : FuncData) (ps : List Str) (sp : Sp) : Prop where
  len : ∀ vs H Q E, sp vs H Q E → vs.length = ps.length
  run : ∀ (A : Around) (outer : List Env) (s : Shared) (H : Hp) (args : Args) (us : List Value) (vs : List V) (Q : VK) (E : XK), L2H.RoomH k A → Env0 P w K mg base A outer s H → BindsTo s fd args (ps.zip us) → Vals vs us → sp vs H Q E →
    codeAny (model P w) A (.call (.ref f) args) (CR CX outer P w H s Q E) s
/-- the context of its body -/
def cxN (CX : CXT) (P : Program) (w : World) (K : PySem.W.Frag) (mg : Str → Option Value) (base : Heap) (N : List Str) (qual : Str) (scope : Scope) (f : Addr) (cd : Value) (A : Around) (outer : List Env) (s : Shared) (H : Hp) (E : XK) : Cx :=
  { cxOf CX P w K mg base N qual scope f cd A outer s H E with calm := false }
theorem fnN_of {CX : CXT} {P : Program} {w : World} {K : PySem.W.Frag} {mg : Str → Option Value} {base : Heap} {k : Nat} {f : Addr} {fd : FuncData} {x qual : Str} {st : Stmt} {N ps : List Str} {sp : Sp} (F : Fun K x qual st f fd) (S : FnScope N ps (defScope st))
    (len : ∀ vs H Q E, sp vs H Q E → vs.length = ps.length)
    (body : ∀ (cd : Value) (A : Around) (outer : List Env) (s : Shared) (H : Hp) (vs : List V) (Q : VK) (E : XK), L2H.RoomH k (A.deeper (envOfC qual (defScope st) s.heap.objs.size f cd)) → sp vs H Q E →
      ∃ t, PSs (cxN CX P w K mg base N qual (defScope st) f cd A outer s H E) (defBody st) t ∧ t { nx := fun _ H' => Q .non H', rt := Q } (L2.start N vs) H) :
    FnN P w K mg base CX (k + 1) f fd ps sp := by
  obtain ⟨oc, od, kV, doc, pm, an, cdv, ct, osl, rfl, at_f, at_cd⟩ := F.ex
  refine ⟨len, fun A outer s H args us vs Q E room e0 bt r h => ?_⟩
  have keep := fun b o e => (e0.bs b o e).1
  have inK := e0.mod.kin.keeps keep
  have kinds : ∀ y ∈ ps.zip us, (defScope st).names.lookup y.1 = some .local ∨ ((defScope st).names.lookup y.1 = some .cell ∧ ((cellsFrom (s.heap.objs.size + 1) (defScope st).names []).lookup y.1).isSome = true) := by
    intro y hy
    have z := S.par y.1 (List.of_mem_zip (show (y.1, y.2) ∈ ps.zip us from hy)).1
    exact z.imp id fun c => ⟨c, PySem.W.cellsFrom_some _ _ _ (.inl c)⟩
  refine codeAny_call_function room.depth (inK _ _ at_f) rfl S.co S.gen rfl (PySem.W.codeRec_of inK at_cd) (bt _ _ _ _ (wpAny_newFunctionEnv_cells S.kind kinds fun env he s1 cs => ?_))
  cases he
  refine ⟨(e0.mod.nolimit.keeps keep).keeps cs.toInCall.keep, codeAny_func ?_⟩
  obtain ⟨t, run, ht⟩ := body cdv A outer s H vs Q E (room.deeper _) h
  let A0 : Around := { A with handled := none }
  have I0 := inv_start (CX := CX) (P := P) (w := w) (E := E) (A := A0) (outer := outer) (qual := qual) (f := f) (cd := cdv) S rfl ⟨e0.frames, e0.mod, e0.bs, e0.bsz, e0.funs, e0.frf, e0.hok, e0.bare⟩ (len _ _ _ _ h) r cs
  have I1 : Inv (cxN CX P w K mg base N qual (defScope st) f cdv A outer s H E) [] (L2.start N vs) H s1 := inv_loud (X := cxOf CX P w K mg base N qual (defScope st) f cdv A0 outer s H E) (B := (cxN CX P w K mg base N qual (defScope st) f cdv A outer s H E).A) (xe := (cxN CX P w K mg base N qual (defScope st) f cdv A outer s H E).xe) I0 rfl
  have out : ∀ (σ' : L2.St) (H' : Hp) (s' : Shared) (v : V) (u : Value), Inv (cxN CX P w K mg base N qual (defScope st) f cdv A outer s H E) [] σ' H' s' → RelV v u → Q v H' → CE outer P w H s Q u s' := fun σ' H' s' v u J rv q => ⟨v, H', J.os, J.bare, J.base, J.hok, rv, q⟩
  refine wpAny_mono (run.run [] s1 (L2.start N vs) H _ I1 ht) (fun z s' q => ?_) fun _ _ q => q
  match z, q with
  | .ret u, ⟨v, σ', H', J, rv, q⟩ => exact out σ' H' s' v u J rv q
  | .next, ⟨σ', H', J, q⟩ => exact out σ' H' s' .non .none J rfl q
  | .brk, ⟨_, _, _, q⟩ => exact q.elim
  | .cont, ⟨_, _, _, q⟩ => exact q.elim
end NH
namespace DL
open PySem PySem.Spec PyProof.Rows L2
section
variable {X : Cx} {M : LK} {W : WX}
theorem dfnN {P : Program} {w : World} {mg : Str → Option Value} {base : Heap} {x qual : Str} {st : Stmt} {f : Addr} {fd : FuncData} {N ps : List Str} {k : Nat} {s : DSp} (F : Fun M.L.K x qual st f fd) (S : FnScope N ps (defScope st)) (t : DTS)
    (hb : ∀ (cdv : Value) (A : Around) (outer : List Env) (s0 : Shared) (H : Hp) (E : XK), L2H.RoomH k (A.deeper (envOfC qual (defScope st) s0.heap.objs.size f cdv)) →
      PSs (NH.cxN (L2.CX P w) P w M.L.K mg base N qual (defScope st) f cdv A outer s0 H E) (defBody st) (liftS M (fun cls d _ H' => E cls d H') t))
    (hs : ∀ ds n q e, ds.length = ps.length → s ds n q e → t { nx := fun _ n' => q .non n', rt := q, ex := fun _ => e } (startD N ds) n) :
    NH.FnN P w M.L.K mg base (L2.CX P w) (k + 1) f fd ps (lift M ps.length s) := by
  refine NH.fnN_of F S (fun vs H Q E h => lift_len h) (fun cdv A outer s0 H vs Q E hr h => ⟨_, hb cdv A outer s0 H E hr, ?_⟩)
  obtain ⟨pn, G, n, ds, q, e, R, hi, hk, hsp, hQ, hE⟩ := h
  refine ⟨pn, G, n, _, _, R.start hi, hs ds n q e hk hsp, ⟨fun G' σ' δ' n' H' A' R' h' => hQ G' .non .non n' H' A' R'.bare (by simp only [Is]) h', fun G' σ' δ' v d n' H' A' R' i' h' => hQ G' v d n' H' A' R'.bare i' h', fun G' σ' δ' n' H' A' R' h' => h'.elim, fun G' σ' δ' n' H' A' R' h' => h'.elim,
    fun G' σ' δ' C a ns xs n' H' A' R' x' h' => hE G' C a ns xs n' H' A' R'.bare x' h'⟩⟩
/-- the own == of a class, whatever is handled -/
structure EqDN (P : Program) (w : World) (K : PySem.W.Frag) (mg : Str → Option Value) (base : Heap) (M : LK) (k : Nat) (C : Addr) (s : DSp) : Prop where
  ex : ∃ f fd ps, OB.EqC K C f ∧ NH.FnN P w K mg base (L2.CX P w) k f fd ps (lift M 2 s) ∧ Binds K fd ps []
/-- room below, whatever is handled -/
structure SubN (X : Cx) (n : Nat) (A : Around) : Prop where
  room : L2H.RoomH n A
  fr : A.frames = X.A.frames
theorem under_subN : Under (SubN X) := ⟨fun s => ⟨NH.room_in1 s.room, s.fr⟩, fun s h => ⟨s.room.mono h, s.fr⟩, fun s => by have := s.room.un; omega⟩
theorem EqDN.runs {k : Nat} {C : Addr} {s : DSp} (c : EqDN X.prog X.w X.K X.mg X.base M k C s) : RunsE X M (SubN X) k C s := by
  obtain ⟨f, fd, ps, ec, F, b⟩ := c.ex
  refine ⟨f, ec, fun A Q us vs pins σ H s0 u I r h => ?_⟩
  have e1 := I.env0
  have e0 : Env0 X.prog X.w X.K X.mg X.base A X.stack s0 H := ⟨u.fr.trans e1.frames, e1.mod, e1.bs, e1.bsz, e1.funs, e1.frf, e1.hok, e1.bare⟩
  have bt : BindsTo s0 fd ⟨us, []⟩ (ps.zip us) := by
    have z := b s0 us I.kIn (by rw [List.append_nil, ← r.length]; exact F.len _ _ _ _ h)
    rwa [List.append_nil] at z
  refine wpAny_call (codeAny_mono (F.run A X.stack s0 H ⟨us, []⟩ us vs Q OB.noE u.room e0 bt r h) fun t s' q => ?_)
  match t, q with
  | .error e, q => exact OB.passNo pins H s0 e s' I q
  | .ok (.ret u), q => exact I.after q
  | .ok .next, q => exact q.elim
  | .ok .brk, q => exact q.elim
  | .ok .cont, q => exact q.elim
def EqDNs (P : Program) (w : World) (K : PySem.W.Frag) (mg : Str → Option Value) (base : Heap) (M : LK) (k : Nat) (Cs : List (Addr × DSp)) : Prop := ∀ p ∈ Cs, ∃ j, j ≤ k ∧ EqDN P w K mg base M j p.1 p.2
theorem eqDNs_nil {P : Program} {w : World} {K : PySem.W.Frag} {mg : Str → Option Value} {base : Heap} {k : Nat} : EqDNs P w K mg base M k [] := fun p h => by cases h
theorem eqDNs_cons {P : Program} {w : World} {K : PySem.W.Frag} {mg : Str → Option Value} {base : Heap} {k j : Nat} {C : Addr} {s : DSp} {Cs : List (Addr × DSp)} (c : EqDN P w K mg base M j C s) (hj : j ≤ k) (h : EqDNs P w K mg base M k Cs) : EqDNs P w K mg base M k ((C, s) :: Cs) := fun p hp => by
  rcases List.mem_cons.mp hp with rfl | hp
  · exact ⟨j, hj, c⟩
  · exact h p hp
theorem EqDNs.runs {k : Nat} {Cs : List (Addr × DSp)} (hc : EqDNs X.prog X.w X.K X.mg X.base M k Cs) : RunsEs X M (SubN X) k Cs := fun p hp => by
  obtain ⟨j, hj, c⟩ := hc p hp
  exact ⟨j, hj, c.runs⟩
theorem op_eqSN (hK : X.K = M.L.K) {k j : Nat} {Cs : List (Addr × DSp)} (hc : EqDNs X.prog X.w X.K X.mg X.base M k Cs) (hr : L2H.RoomH j X.A) (hj : k + 6 ≤ j) : OpR X (compareOp .Eq) (fun x y H Q => (rEq x y H Q ∨ rEqD M.L.K x y H Q) ∨ rSm M Cs true x y H Q) :=
  OpR.or (op_eqX hK (by have := hr.un; omega)) (op_sm under_subN hK hc.runs ⟨hr, rfl⟩ hj)
theorem op_neSN (hK : X.K = M.L.K) {k j : Nat} {Cs : List (Addr × DSp)} (hc : EqDNs X.prog X.w X.K X.mg X.base M k Cs) (hr : L2H.RoomH j X.A) (hj : k + 6 ≤ j) : OpR X (compareOp .NotEq) (fun x y H Q => (rNe x y H Q ∨ rNeD M.L.K x y H Q) ∨ rSm M Cs false x y H Q) :=
  OpR.or (op_neX hK (by have := hr.un; omega)) (op_smN under_subN hK hc.runs ⟨hr, rfl⟩ hj)
theorem hu64N {k : Nat} {A : Around} (r : L2H.RoomH k A) : A.units + 64 < cLine := by have := r.un; omega
theorem room_suite {k : Nat} {A : Around} {v : Option Value} (r : Room k A) : L2H.RoomH k (A.mark v) := ⟨r.dp, r.un⟩
end
/-- the context of a def's body, whatever is handled -/
abbrev XN (P : Program) (w : World) (K : PySem.W.Frag) (mg : Str → Option Value) (base : Heap) (N : List Str) (qual : Str) (st : Stmt) (f : Addr) (cd : Value) (A : Around) (outer : List Env) (s : Shared) (H : Hp) (E : XK) : Cx := NH.cxN (L2.CX P w) P w K mg base N qual (defScope st) f cd A outer s H E
/-- a def that makes functions, by its body -/
theorem CalD.ofCF {P : Program} {w : World} {mg : Str → Option Value} {base : Heap} {M : LK} {x : Str} {st : Stmt} {N ps : List Str} {k : Nat} {s : DSp} {c : Addr} (D : DefC M.L.K mg x st ps c) (S : FnScope N ps (defScope st)) (t : List (Str × Addr) → DTS)
    (hb : ∀ (f : Addr) (A : Around) (outer : List Env) (s0 : Shared) (H : Hp) (E : XK), Room k (A.deeper (envOfC x (defScope st) s0.heap.objs.size f (.ref c))) →
      PSs (cxOf (L2.CX P w) P w M.L.K mg base N x (defScope st) f (.ref c) A outer s0 H E) (defBody st) (liftS M (fun cls d _ H' => E cls d H') (t (envOfC x (defScope st) s0.heap.objs.size f (.ref c)).cells)))
    (hs : ∀ fr ds n q e, ds.length = ps.length → s ds n q e → t fr { nx := fun _ n' => q .non n', rt := q, ex := fun _ => e } (startD N ds) n) : CalD P w M.L.K mg base M (k + 1) x ps s := by
  obtain ⟨f, oc, od, an, osl, dV, kV, doc, pm, ct, lk, hcd, hm, kp, b⟩ := D.ex
  refine ⟨f, _, fn_of lk hcd S (fun vs H Q E h => lift_len h) fun A outer s0 H vs Q E hr h => ⟨_, hb f A outer s0 H E hr, ?_⟩, hm, kp, b⟩
  obtain ⟨pn, G, n, ds, q, e, R, hi, hk, hsp, hQ, hE⟩ := h
  refine ⟨pn, G, n, _, _, R.start hi, hs _ ds n q e hk hsp, ⟨fun G' σ' δ' n' H' A' R' h' => hQ G' .non .non n' H' A' R'.bare (by simp only [Is]) h', fun G' σ' δ' v d n' H' A' R' i' h' => hQ G' v d n' H' A' R'.bare i' h', fun G' σ' δ' n' H' A' R' h' => h'.elim, fun G' σ' δ' n' H' A' R' h' => h'.elim,
    fun G' σ' δ' C a ns xs n' H' A' R' x' h' => hE G' C a ns xs n' H' A' R'.bare x' h'⟩⟩
end DL

set_option Elab.async false
set_option linter.all false
set_option maxRecDepth 100000
set_option maxHeartbeats 8000000
set_option autoImplicit false
/-! k43: what the defs promise. -/
namespace K43
open PySem PySem.Spec PyProof.Rows L2 DL
/-- where things stand -/
structure Ad where
  BadValue : Addr
  i_BadValue : Addr
  NoDivisor : Addr
  Ratio : Addr
  Fault : Addr
  Grid : Addr
  Member : Addr
  Strand : Addr
  k_law_refused : Addr
  k_law_are_refused : Addr
  p_law_are_refused : Addr
/-! ### plain functions -/
def sm (k : Nat) (x : Int) : Prop := x.natAbs < 2 ^ k
def gS (t b : Int) : Int := if b < 0 then -(Int.gcd t b : Int) else (Int.gcd t b : Int)
def nT (t b : Int) : Int := t.fdiv (gS t b)
def nB (t b : Int) : Int := b.fdiv (gS t b)
def ratD (A : Ad) (t b : Int) : D := .ins A.Ratio ["top", "bottom"] [.int t, .int b]
def fltD (A : Ad) (l : List Nat) : D := .ins A.Fault ["kind"] [.str l]
def tx_na : List Nat := [78, 65]
def tx_div : List Nat := [68, 73, 86]
structure TX (l : List Nat) : Prop where
  ln : l.length ≤ 1000
  ok : ∀ c ∈ l, 32 ≤ c ∧ c ≤ 126
/-- the values of the law -/
inductive VAL (A : Ad) : D → Prop
  | non : VAL A .non
  | bl (b : Bool) : VAL A (.bl b)
  | str (l : List Nat) (h : TX l) : VAL A (.str l)
  | rat (t b : Int) : VAL A (ratD A t b)
  | flt (l : List Nat) : VAL A (fltD A l)
def wdt (rows : List (List D)) : Nat := (rows.headD []).length
structure GR (A : Ad) (rows : List (List D)) : Prop where
  ne : 0 < rows.length
  wp : 0 < wdt rows
  wd : ∀ r ∈ rows, r.length = wdt rows
  sz : rows.length * wdt rows ≤ 10000
  ok : ∀ r ∈ rows, ∀ v ∈ r, VAL A v
abbrev tRows (rows : List (List D)) : List D := rows.map D.tup
abbrev lRows (rows : List (List D)) : List D := rows.map D.lst
def gridD (A : Ad) (rows : List (List D)) : D := .ins A.Grid ["rows", "height", "width", "corner"] [.tup (tRows rows), .int (rows.length : Nat), .int (wdt rows : Nat), .non]
/-- what a place has -/
def giv (A : Ad) (rows : List (List D)) (r c : Int) : D :=
  if (rows.length : Int) < (if rows.length = 1 then 1 else r) ∨ (wdt rows : Int) < (if wdt rows = 1 then 1 else c) then fltD A tx_na
  else ((rows.getD ((if rows.length = 1 then 1 else r) - 1).toNat []).getD ((if wdt rows = 1 then 1 else c) - 1).toNat .non)
def MX (is : List Int) (m : Int) : Prop := m ∈ is ∧ ∀ y, y ∈ is → y ≤ m
def hts (gs : List (List (List D))) : List Int := gs.map fun g => (g.length : Int)
def wds (gs : List (List (List D))) : List Int := gs.map fun g => (wdt g : Int)
/-! ### promises -/
def isIntD : D → Bool | .int _ => true | _ => false
def kd (x : D) : Prop := (kindD x).isSome = true
/-- values that are no grids -/
def KG (x : D) : Prop := x = .non ∨ (∃ b, x = .bl b) ∨ (∃ i, x = .int i) ∨ (∃ l, x = .str l) ∨ ∃ xs, x = .lst xs
def badN (x : D) : Prop := ∀ i : Int, x = .int i → i < 1
def lim (n : NS) (k : Nat) : Prop := n.at_ + k < 1000000
def s_need_items (A : Ad) : DSp := fun ds n q e => ∃ x, ds = [x] ∧ ((∃ xs, (x = .lst xs ∨ x = .tup xs) ∧ q .non n) ∨ ∃ rows, x = gridD A rows ∧ e A.BadValue ["value"] [x] n)
def s_is_number (A : Ad) : DSp := fun ds n q _ => ∃ x, ds = [x] ∧ ((∃ t b, x = ratD A t b ∧ q (.bl true) n) ∨ (∃ l, x = .str l ∧ q (.bl false) n))
def s_is_text (A : Ad) : DSp := fun ds n q _ => ∃ l, ds = [.str l] ∧ TX l ∧ q (.bl true) n
def s_is_value (A : Ad) : DSp := fun ds n q _ => ∃ x, ds = [x] ∧ VAL A x ∧ q (.bl true) n
def s_is_row (A : Ad) : DSp := fun ds n q _ => ∃ r, ds = [.tup r] ∧ 0 < r.length ∧ r.length ≤ 10000 ∧ (∀ v ∈ r, VAL A v) ∧ q (.bl true) n
def s_need_rows (A : Ad) : DSp := fun ds n q _ => ∃ rows, ds = [.lst (tRows rows)] ∧ GR A rows ∧ q .non n
def s_is_integer (A : Ad) : DSp := fun ds n q _ => ∃ x, ds = [x] ∧ kd x ∧ q (.bl (isIntD x)) n
def s_need_integer (A : Ad) : DSp := fun ds n q _ => ∃ i : Int, ds = [.int i] ∧ q .non n
def s_is_corner (A : Ad) : DSp := fun _ _ _ _ => False
def s_Grid_init (A : Ad) : DSp := fun ds n q _ => ∃ a dx rows, ds = [.ref a, .lst (tRows rows), .non] ∧ n.mu a = some (.ins A.Grid dx [] []) ∧ GR A rows ∧
  q .non ⟨n.at_, mup n.mu a (some (.ins A.Grid dx ["rows", "height", "width", "corner"] [.tup (tRows rows), .int (rows.length : Nat), .int (wdt rows : Nat), .non]))⟩
def s_Grid (A : Ad) : DSp := fun ds n q _ => ∃ rows, ds = [.lst (tRows rows), .non] ∧ GR A rows ∧ q (gridD A rows) n
def s_stretch (A : Ad) : DSp := fun ds n q _ => ∃ x gs, ds = [x] ∧ (x = .lst (gs.map (gridD A)) ∨ x = .tup (gs.map (gridD A))) ∧ gs ≠ [] ∧ gs.length ≤ 100 ∧ ∀ h w, MX (hts gs) h → MX (wds gs) w → q (.tup [.int h, .int w]) n
def s_stretched (A : Ad) : DSp := fun ds n q e => ∃ x, ds = [x] ∧
  ((∃ gs, (x = .lst (gs.map (gridD A)) ∨ x = .tup (gs.map (gridD A))) ∧ gs ≠ [] ∧ gs.length ≤ 100 ∧ ∀ h w, MX (hts gs) h → MX (wds gs) w → q (.tup [.int h, .int w]) n) ∨
   (∃ rows y zs, x = .lst (gridD A rows :: y :: zs) ∧ KG y ∧ e A.BadValue ["value"] [y] n) ∨ (x = .lst [] ∧ e A.BadValue ["value"] [x] n) ∨ (∃ rows, x = gridD A rows ∧ e A.BadValue ["value"] [x] n))
def s__law_draw (A : Ad) : DSp := fun ds n q _ => ∃ m : Int, ds = [.pen, .int m] ∧ 0 < m ∧ m < 1073741824 ∧ lim n 1 ∧ ∀ k t, 0 ≤ k → k < m → n.at_ ≤ t → t ≤ n.at_ + 1 → q (.int k) ⟨t, n.mu⟩
def s__law_pick (A : Ad) : DSp := fun ds n q _ => ∃ xs : List D, ds = [.pen, .lst xs] ∧ 0 < xs.length ∧ xs.length ≤ 1000 ∧ lim n 1 ∧ ∀ x t, x ∈ xs → n.at_ ≤ t → t ≤ n.at_ + 1 → q x ⟨t, n.mu⟩
def s_Ratio_eq (A : Ad) : DSp := fun ds n q _ => ∃ t b, ds = [ratD A t b, ratD A t b] ∧ q (.bl true) n
def s_Fault_eq (A : Ad) : DSp := fun ds n q _ => ∃ l, ds = [fltD A l, fltD A l] ∧ q (.bl true) n
def s_Grid_eq (A : Ad) : DSp := fun ds n q _ => ∃ rows, ds = [gridD A rows, gridD A rows] ∧ GR A rows ∧ q (.bl true) n
def s_law_refused (A : Ad) : D → DTold := fun y call n q => call n (fun _ _ => False) fun C ns xs n' => C = A.BadValue ∧ ns = [("value" : Str)] ∧ xs = [y] ∧ (∀ (n : NS) (q : D → NS → Prop), q (.bl true) n → gEqS [(A.Grid, s_Grid_eq A)] y y n q) ∧ q (.bl true) n'
def s_Fault_init (A : Ad) : DSp := fun ds n q _ => ∃ a dx l, ds = [.ref a, .str l] ∧ n.mu a = some (.ins A.Fault dx [] []) ∧ (l = tx_na ∨ l = tx_div) ∧ q .non ⟨n.at_, mup n.mu a (some (.ins A.Fault dx ["kind"] [.str l]))⟩
def s_Fault (A : Ad) : DSp := fun ds n q _ => ∃ l, ds = [.str l] ∧ (l = tx_na ∨ l = tx_div) ∧ q (fltD A l) n
def s_part_within (A : Ad) : DSp := fun ds n q _ => ∃ rows r c, ds = [gridD A rows, .int r, .int c] ∧ GR A rows ∧ 1 ≤ r ∧ 1 ≤ c ∧ q (giv A rows r c) n
def s_part_at (A : Ad) : DSp := fun ds n q e => ∃ g x y, ds = [g, x, y] ∧ ((KG g ∧ e A.BadValue ["value"] [g] n) ∨ ∃ rows, g = gridD A rows ∧ GR A rows ∧
  ((kd x ∧ badN x ∧ e A.BadValue ["value"] [x] n) ∨ (∃ r : Int, x = .int r ∧ 1 ≤ r ∧ kd y ∧ badN y ∧ e A.BadValue ["value"] [y] n) ∨ (∃ r c : Int, x = .int r ∧ y = .int c ∧ 1 ≤ r ∧ 1 ≤ c ∧ q (giv A rows r c) n)))
def s__law_are_refused (A : Ad) : DSp := fun ds n q _ => ∃ rows, ds = [.pen, gridD A rows] ∧ GR A rows ∧ lim n 2 ∧ ∀ t, n.at_ ≤ t → t ≤ n.at_ + 2 → q (.bl true) ⟨t, n.mu⟩
def s_common_whole (A : Ad) : DSp := fun ds n q _ => ∃ t b : Int, ds = [.int t, .int b] ∧ sm 8000 t ∧ sm 8000 b ∧ q (.int (Int.gcd t b : Int)) n
def s_Ratio_init (A : Ad) : DSp := fun ds n q _ => ∃ a dx t b, ds = [.ref a, .int t, .int b] ∧ n.mu a = some (.ins A.Ratio dx [] []) ∧ b ≠ 0 ∧ sm 8000 t ∧ sm 8000 b ∧
  q .non ⟨n.at_, mup n.mu a (some (.ins A.Ratio dx ["top", "bottom"] [.int (nT t b), .int (nB t b)]))⟩
def s_Ratio (A : Ad) : DSp := fun ds n q _ => ∃ t b, ds = [.int t, .int b] ∧ b ≠ 0 ∧ sm 8000 t ∧ sm 8000 b ∧ q (ratD A (nT t b) (nB t b)) n
def s__law_value (A : Ad) : DSp := fun ds n q _ => ds = [.pen] ∧ lim n 5 ∧ ∀ v t, VAL A v → n.at_ ≤ t → t ≤ n.at_ + 5 → q v ⟨t, n.mu⟩
def s__law_rows (A : Ad) : DSp := fun ds n q _ => ds = [.pen] ∧ lim n 200 ∧ ∀ rows t, GR A rows → n.at_ ≤ t → t ≤ n.at_ + 200 → q (.lst (lRows rows)) ⟨t, n.mu⟩
def s__law_same (A : Ad) : DSp := fun ds n q _ => ∃ x, ds = [x, x] ∧ VAL A x ∧ q (.bl true) n
def s__law_given (A : Ad) : DSp := fun ds n q _ => ∃ rows r c, ds = [.lst (lRows rows), .int r, .int c] ∧ GR A rows ∧ 1 ≤ r ∧ 1 ≤ c ∧ q (giv A rows r c) n
end K43

set_option Elab.async false
set_option linter.all false
set_option maxRecDepth 100000
set_option maxHeartbeats 8000000
set_option autoImplicit false
namespace K43
open PySem PySem.Spec PyProof.Rows L2 DL
def top (i : Nat) : Stmt := PySem.Challenge.pw_allinputs_k43_places_of_grids.main.body.getD i (.Pass ⟨0, 0, 0, 0⟩)
theorem hu64 {k : Nat} {A : Around} (hr : Room k A) : A.units + 64 < cLine := by
  have := hr.un
  omega
theorem hu65 {k : Nat} {A : Around} (hr : Room k A) : A.units + 65 < cLine := by
  have := hr.un
  omega
theorem hu100 {k : Nat} {A : Around} (hr : Room k A) : A.units + 100 < cLine := by
  have := hr.un
  omega
/-- what the text says of the module -/
structure Txt (P : Program) (K : PySem.W.Frag) (mg : Str → Option Value) (A : Ad) : Prop where
  n_abs : mg "abs" = none
  n_all : mg "all" = none
  n_bool : mg "bool" = none
  n_int : mg "int" = none
  n_isinstance : mg "isinstance" = none
  n_len : mg "len" = none
  n_list : mg "list" = none
  n_max : mg "max" = none
  n_range : mg "range" = none
  n_str : mg "str" = none
  n_tuple : mg "tuple" = none
  g_MOST_SIGNS : ∃ u, mg "MOST_SIGNS" = some u ∧ RelV (.int 1000) u
  g_MOST_VALUES : ∃ u, mg "MOST_VALUES" = some u ∧ RelV (.int 10000) u
  g_FAULT_KINDS : ∃ a, mg "FAULT_KINDS" = some (.ref a) ∧ KTup K a [.str (DL.S [68, 73, 86]), .str (DL.S [86, 65, 76, 85, 69]), .str (DL.S [82, 69, 70]), .str (DL.S [78, 65, 77, 69]), .str (DL.S [78, 85, 77]), .str (DL.S [78, 65]), .str (DL.S [83, 80, 73, 76, 76]), .str (DL.S [82, 73, 78, 71])]
  c_BadValue : mg "BadValue" = some (.ref A.BadValue)
  c_Fault : mg "Fault" = some (.ref A.Fault)
  c_Grid : mg "Grid" = some (.ref A.Grid)
  c_Member : mg "Member" = some (.ref A.Member)
  c_NoDivisor : mg "NoDivisor" = some (.ref A.NoDivisor)
  c_Ratio : mg "Ratio" = some (.ref A.Ratio)
  c_Strand : mg "Strand" = some (.ref A.Strand)
  e_BadValue : PySem.EX.ErrTxt P K mg "BadValue" "value" A.BadValue A.i_BadValue
  z_NoDivisor : PySem.EK.Err0 P K mg "NoDivisor" A.NoDivisor
  fl_bottom : FldOk K [A.Ratio] "bottom"
  fl_corner : FldOk K [A.Grid] "corner"
  fl_height : FldOk K [A.Grid] "height"
  fl_kind : FldOk K [A.Fault] "kind"
  fl_rows : FldOk K [A.Grid] "rows"
  fl_top : FldOk K [A.Ratio] "top"
  fl_width : FldOk K [A.Grid] "width"
  xf_BadValue : XfC K A.BadValue
  no_BadValue_value : PySem.W.findIn K (.ref A.BadValue) "value" = some none
  m_BB : PySem.W.exmOne K (.ref A.BadValue) (.ref A.BadValue) = some true
  k_Ratio_Ratio : PySem.W.kitOne K (.ref A.Ratio) (.ref A.Ratio) = some true
  k_Fault_Fault : PySem.W.kitOne K (.ref A.Fault) (.ref A.Fault) = some true
  k_Grid_Grid : PySem.W.kitOne K (.ref A.Grid) (.ref A.Grid) = some true
  k_Ratio_bool : PySem.W.kitOne K (.ref A.Ratio) (.type "bool") = some false
  k_Ratio_Fault : PySem.W.kitOne K (.ref A.Ratio) (.ref A.Fault) = some false
  k_Fault_bool : PySem.W.kitOne K (.ref A.Fault) (.type "bool") = some false
  k_str_Ratio : PySem.W.kitOne K (.type "str") (.ref A.Ratio) = some false
  k_str_Strand : PySem.W.kitOne K (.type "str") (.ref A.Strand) = some false
  k_str_Member : PySem.W.kitOne K (.type "str") (.ref A.Member) = some false
  k_str_Fault : PySem.W.kitOne K (.type "str") (.ref A.Fault) = some false
  k_Grid_list : PySem.W.kitOne K (.ref A.Grid) (.type "list") = some false
  k_Grid_tuple : PySem.W.kitOne K (.ref A.Grid) (.type "tuple") = some false
  k_NoneType_Grid : PySem.W.kitOne K (.type "NoneType") (.ref A.Grid) = some false
  k_bool_Grid : PySem.W.kitOne K (.type "bool") (.ref A.Grid) = some false
  k_int_Grid : PySem.W.kitOne K (.type "int") (.ref A.Grid) = some false
  k_str_Grid : PySem.W.kitOne K (.type "str") (.ref A.Grid) = some false
  k_list_Grid : PySem.W.kitOne K (.type "list") (.ref A.Grid) = some false
  i_Ratio : InsC K A.Ratio
  i_Fault : InsC K A.Fault
  i_Grid : InsC K A.Grid
  d_law_refused : DefC K mg "_law_refused" (top 139) ["_law_call", "_law_value_here"] A.k_law_refused
def lamAt (st : Stmt) (i j : Nat) (q : Str) : Src := match (defBody st).getD i (.Pass ⟨0, 0, 0, 0⟩) with
  | .Assign _ (.List es _) _ => (match es.getD j (.Constant .none 0 ⟨0, 0, 0, 0⟩) with | .Lambda ps b sc _ => ⟨q, ps, b, sc⟩ | _ => ⟨q, defArgs st, .Constant .none 0 ⟨0, 0, 0, 0⟩, defScope st⟩)
  | _ => ⟨q, defArgs st, .Constant .none 0 ⟨0, 0, 0, 0⟩, defScope st⟩
def lamIn (st : Stmt) (q : Str) : Expr → Src
  | .Tuple (.Lambda ps b sc _ :: _) _ _ => ⟨q, ps, b, sc⟩
  | _ => ⟨q, defArgs st, .Constant .none 0 ⟨0, 0, 0, 0⟩, defScope st⟩
def lamAtT (st : Stmt) (i j : Nat) (q : Str) : Src := match (defBody st).getD i (.Pass ⟨0, 0, 0, 0⟩) with
  | .Assign _ (.List es _) _ => lamIn st q (es.getD j (.Constant .none 0 ⟨0, 0, 0, 0⟩))
  | .Expr (.Call _ (e :: _) _ _) _ => lamIn st q e
  | _ => lamIn st q (.Constant .none 0 ⟨0, 0, 0, 0⟩)
abbrev XC (P : Program) (w : World) (K : PySem.W.Frag) (mg : Str → Option Value) (base : Heap) (N : List Str) (x : Str) (st : Stmt) (f : Addr) (cdv : Value) (A : Around) (outer : List Env) (s : Shared) (H : Hp) (E : XK) : Cx := cxOf (L2.CX P w) P w K mg base N x (defScope st) f cdv A outer s H E
abbrev MM (K : PySem.W.Frag) (Tb : List (Addr × Str)) (pn : Addr) (cs : List Int) : LK := MK K Tb "begun" "left" pn cs
theorem KO {K : PySem.W.Frag} {Tb : List (Addr × Str)} {pn : Addr} {cs : List Int} : KeysOk (MM K Tb pn cs) := ⟨(by decide : ("begun" : Str) ≠ "cells"), (by decide : ("left" : Str) ≠ "cells"), (by decide : ("left" : Str) ≠ "begun")⟩
def g_Fault_new0 (ds es : List D) : List D := match ds, es with | [x0], [] => [x0] | _, _ => []
def g_Ratio_new1 (ds es : List D) : List D := match ds, es with | [x0, x1], [] => [x0, x1] | _, _ => []
def g_Ratio_new2 (ds es : List D) : List D := match ds, es with | [x0], [] => [x0, (.int 1)] | _, _ => []
def g_Grid_new3 (ds es : List D) : List D := match ds, es with | [x0], [] => [x0, .non] | _, _ => []
abbrev N_need_items : List Str := ["value"]
theorem sc_need_items : FnScope N_need_items ["value"] (defScope (top 11)) := ⟨rfl, rfl, rfl, by decide +kernel, rfl, by decide +kernel, by decide +kernel⟩
def t_need_items (K : PySem.W.Frag) (A : Ad) (cs : List Int) : DTS :=
  (dIfS (dNot (dTest (dCB (gIsiT K) (dCons (dVar 0) (dCons (dTup (dCons (dC (.ty "list")) (dCons (dC (.ty "tuple")) dNil))) dNil))))) (dRaise A.BadValue "value" (dCons (dVar 0) dNil)) dNext)
abbrev N_is_number : List Str := ["thing"]
theorem sc_is_number : FnScope N_is_number ["thing"] (defScope (top 118)) := ⟨rfl, rfl, rfl, by decide +kernel, rfl, by decide +kernel, by decide +kernel⟩
def t_is_number (K : PySem.W.Frag) (A : Ad) (cs : List Int) : DTS :=
  (dRet (dCB (gIsiT K) (dCons (dVar 0) (dCons (dTup (dCons (dC (.ref A.Ratio)) (dCons (dC (.ref A.Strand)) (dCons (dC (.ref A.Member)) dNil)))) dNil))))
abbrev N_is_text : List Str := ["thing", "sign"]
theorem sc_is_text : FnScope N_is_text ["thing"] (defScope (top 119)) := ⟨rfl, rfl, rfl, by decide +kernel, rfl, by decide +kernel, by decide +kernel⟩
def t_is_text (K : PySem.W.Frag) (A : Ad) (cs : List Int) : DTS :=
  (dSeq (dIfS (dOr (dNot (dTest (dCB (gIsi K) (dCons (dVar 0) (dCons (dC (.ty "str")) dNil))))) (dTest (dOp gGt (dCB gLen (dCons (dVar 0) dNil)) (dC (.int 1000))))) (dRet (dC (.bl false))) dNext)
    (dRet (dCB gAll (dCons (dLc (diSeq (dVar 0)) (dgName 1) dYes (dChain gLe gLe (dC (.str [32])) (dVar 1) (dC (.str [126]))) [1]) dNil))))
abbrev N_is_value : List Str := ["thing"]
theorem sc_is_value : FnScope N_is_value ["thing"] (defScope (top 120)) := ⟨rfl, rfl, rfl, by decide +kernel, rfl, by decide +kernel, by decide +kernel⟩
def t_is_value (K : PySem.W.Frag) (A : Ad) (cs : List Int) : DTS :=
  (dSeq (dIfS (dOr (dTest (dOp gIsN (dVar 0) (dC .non))) (dTest (dCB (gIsiT K) (dCons (dVar 0) (dCons (dTup (dCons (dC (.ty "bool")) (dCons (dC (.ref A.Fault)) dNil))) dNil))))) (dRet (dC (.bl true))) dNext)
    (dRet (dOrV (dCal 1 (s_is_number A) (dCons (dVar 0) dNil)) (dCal 1 (s_is_text A) (dCons (dVar 0) dNil)))))
abbrev N_is_row : List Str := ["thing", "value"]
theorem sc_is_row : FnScope N_is_row ["thing"] (defScope (top 123)) := ⟨rfl, rfl, rfl, by decide +kernel, rfl, by decide +kernel, by decide +kernel⟩
def t_is_row (K : PySem.W.Frag) (A : Ad) (cs : List Int) : DTS :=
  (dSeq (dIfS (dOr (dNot (dTest (dCB (gIsiT K) (dCons (dVar 0) (dCons (dTup (dCons (dC (.ty "list")) (dCons (dC (.ty "tuple")) dNil))) dNil))))) (dTest (dOp gEq (dCB gLen (dCons (dVar 0) dNil)) (dC (.int 0))))) (dRet (dC (.bl false))) dNext)
    (dRet (dCB gAll (dCons (dLc (diSeq (dVar 0)) (dgName 1) dYes (dCal 1 (s_is_value A) (dCons (dVar 1) dNil)) [1]) dNil))))
abbrev N_need_rows : List Str := ["rows", "row"]
theorem sc_need_rows : FnScope N_need_rows ["rows"] (defScope (top 124)) := ⟨rfl, rfl, rfl, by decide +kernel, rfl, by decide +kernel, by decide +kernel⟩
def l_need_rows_1 (K : PySem.W.Frag) (A : Ad) (cs : List Int) : DTS :=
  (dIfS (dTest (dOp gNe (dCB gLen (dCons (dVar 1) dNil)) (dCB gLen (dCons (dOp gIx (dVar 0) (dC (.int 0))) dNil)))) (dRaise A.BadValue "value" (dCons (dVar 0) dNil)) dNext)
def u_need_rows_4 (K : PySem.W.Frag) (A : Ad) (cs : List Int) : DTS :=
  (dFor (diSeq (dVar 0)) (dgName 1) (l_need_rows_1 K A cs))
def u_need_rows_3 (K : PySem.W.Frag) (A : Ad) (cs : List Int) : DTS :=
  (dSeq (dIfS (dOr (dTest (dOp gEq (dCB gLen (dCons (dVar 0) dNil)) (dC (.int 0)))) (dTest (dOp gGt (dOp gMul (dCB gLen (dCons (dVar 0) dNil)) (dCB gLen (dCons (dOp gIx (dVar 0) (dC (.int 0))) dNil))) (dC (.int 10000))))) (dRaise A.BadValue "value" (dCons (dVar 0) dNil)) dNext) (u_need_rows_4 K A cs))
def l_need_rows_4 (K : PySem.W.Frag) (A : Ad) (cs : List Int) : DTS :=
  (dIfS (dNot (dTest (dCal 1 (s_is_row A) (dCons (dVar 1) dNil)))) (dRaise A.BadValue "value" (dCons (dVar 1) dNil)) dNext)
def u_need_rows_2 (K : PySem.W.Frag) (A : Ad) (cs : List Int) : DTS :=
  (dSeq (dFor (diSeq (dVar 0)) (dgName 1) (l_need_rows_4 K A cs)) (u_need_rows_3 K A cs))
def t_need_rows (K : PySem.W.Frag) (A : Ad) (cs : List Int) : DTS :=
  (dSeq (dDrop (dCal 1 (s_need_items A) (dCons (dVar 0) dNil))) (u_need_rows_2 K A cs))
abbrev N_is_integer : List Str := ["value"]
theorem sc_is_integer : FnScope N_is_integer ["value"] (defScope (top 9)) := ⟨rfl, rfl, rfl, by decide +kernel, rfl, by decide +kernel, by decide +kernel⟩
def t_is_integer (K : PySem.W.Frag) (A : Ad) (cs : List Int) : DTS :=
  (dRet (dAndV (dCB (gIsi K) (dCons (dVar 0) (dCons (dC (.ty "int")) dNil))) (dNotV (dCB (gIsi K) (dCons (dVar 0) (dCons (dC (.ty "bool")) dNil))))))
abbrev N_is_corner : List Str := ["value", "part"]
theorem sc_is_corner : FnScope N_is_corner ["value"] (defScope (top 12)) := ⟨rfl, rfl, rfl, by decide +kernel, rfl, by decide +kernel, by decide +kernel⟩
def t_is_corner (K : PySem.W.Frag) (A : Ad) (cs : List Int) : DTS :=
  (dSeq (dIfS (dOr (dNot (dTest (dCB (gIsiT K) (dCons (dVar 0) (dCons (dTup (dCons (dC (.ty "list")) (dCons (dC (.ty "tuple")) dNil))) dNil))))) (dTest (dOp gNe (dCB gLen (dCons (dVar 0) dNil)) (dC (.int 2))))) (dRet (dC (.bl false))) dNext)
    (dRet (dCB gAll (dCons (dLc (diSeq (dVar 0)) (dgName 1) dYes (dAndV (dCal 1 (s_is_integer A) (dCons (dVar 1) dNil)) (dOp gGe (dVar 1) (dC (.int 1)))) [1]) dNil))))
abbrev N_Grid_init : List Str := ["self", "rows", "corner", "row"]
theorem sc_Grid_init : FnScope N_Grid_init ["self", "rows", "corner"] (defScope (inClass (top 125) 0)) := ⟨rfl, rfl, rfl, by decide +kernel, rfl, by decide +kernel, by decide +kernel⟩
def u_Grid_init_6 (K : PySem.W.Frag) (A : Ad) (cs : List Int) : DTS :=
  (dIfS (dTest (dOp gNotN (dVar 2) (dC .non))) (dAsg (dCB gTuple (dCons (dVar 2) dNil)) (dgFld [A.Grid] "corner" (dVar 0))) dNext)
def u_Grid_init_5 (K : PySem.W.Frag) (A : Ad) (cs : List Int) : DTS :=
  (dSeq (dAsg (dVar 2) (dgFld [A.Grid] "corner" (dVar 0))) (u_Grid_init_6 K A cs))
def u_Grid_init_4 (K : PySem.W.Frag) (A : Ad) (cs : List Int) : DTS :=
  (dSeq (dAsg (dTup (dCons (dCB gLen (dCons (dVar 1) dNil)) (dCons (dCB gLen (dCons (dOp gIx (dVar 1) (dC (.int 0))) dNil)) dNil))) (dgTup 2 (dgCons (dgFld [A.Grid] "height" (dVar 0)) (dgCons (dgFld [A.Grid] "width" (dVar 0)) dgNil)))) (u_Grid_init_5 K A cs))
def u_Grid_init_3 (K : PySem.W.Frag) (A : Ad) (cs : List Int) : DTS :=
  (dSeq (dAsg (dCB gTuple (dCons (dLc (diSeq (dVar 1)) (dgName 3) dYes (dCB gTuple (dCons (dVar 3) dNil)) [3]) dNil)) (dgFld [A.Grid] "rows" (dVar 0))) (u_Grid_init_4 K A cs))
def u_Grid_init_2 (K : PySem.W.Frag) (A : Ad) (cs : List Int) : DTS :=
  (dSeq (dIfS (dAnd (dTest (dOp gNotN (dVar 2) (dC .non))) (dNot (dTest (dCal 1 (s_is_corner A) (dCons (dVar 2) dNil))))) (dRaise A.BadValue "value" (dCons (dVar 2) dNil)) dNext) (u_Grid_init_3 K A cs))
def t_Grid_init (K : PySem.W.Frag) (A : Ad) (cs : List Int) : DTS :=
  (dSeq (dDrop (dCal 1 (s_need_rows A) (dCons (dVar 1) dNil))) (u_Grid_init_2 K A cs))
abbrev N_stretch : List Str := ["grids", "grid"]
theorem sc_stretch : FnScope N_stretch ["grids"] (defScope (top 127)) := ⟨rfl, rfl, rfl, by decide +kernel, rfl, by decide +kernel, by decide +kernel⟩
def t_stretch (K : PySem.W.Frag) (A : Ad) (cs : List Int) : DTS :=
  (dRet (dTup (dCons (dCB gMaxL (dCons (dLc (diSeq (dVar 0)) (dgName 1) dYes (dFld [A.Grid] "height" (dVar 1)) [1]) dNil)) (dCons (dCB gMaxL (dCons (dLc (diSeq (dVar 0)) (dgName 1) dYes (dFld [A.Grid] "width" (dVar 1)) [1]) dNil)) dNil))))
abbrev N_stretched : List Str := ["grids", "grid"]
theorem sc_stretched : FnScope N_stretched ["grids"] (defScope (top 129)) := ⟨rfl, rfl, rfl, by decide +kernel, rfl, by decide +kernel, by decide +kernel⟩
def u_stretched_4 (K : PySem.W.Frag) (A : Ad) (cs : List Int) : DTS :=
  (dRet (dCal 1 (s_stretch A) (dCons (dVar 0) dNil)))
def u_stretched_3 (K : PySem.W.Frag) (A : Ad) (cs : List Int) : DTS :=
  (dSeq (dIfS (dTest (dOp gEq (dCB gLen (dCons (dVar 0) dNil)) (dC (.int 0)))) (dRaise A.BadValue "value" (dCons (dVar 0) dNil)) dNext) (u_stretched_4 K A cs))
def l_stretched_3 (K : PySem.W.Frag) (A : Ad) (cs : List Int) : DTS :=
  (dIfS (dNot (dTest (dCB (gIsi K) (dCons (dVar 1) (dCons (dC (.ref A.Grid)) dNil))))) (dRaise A.BadValue "value" (dCons (dVar 1) dNil)) dNext)
def u_stretched_2 (K : PySem.W.Frag) (A : Ad) (cs : List Int) : DTS :=
  (dSeq (dFor (diSeq (dVar 0)) (dgName 1) (l_stretched_3 K A cs)) (u_stretched_3 K A cs))
def t_stretched (K : PySem.W.Frag) (A : Ad) (cs : List Int) : DTS :=
  (dSeq (dDrop (dCal 1 (s_need_items A) (dCons (dVar 0) dNil))) (u_stretched_2 K A cs))
abbrev N__law_draw : List Str := ["_law_pen", "_law_span", "_law_digit", "_law_at", "_law_cell", "_law_n"]
theorem sc__law_draw : FnScope N__law_draw ["_law_pen", "_law_span"] (defScope (top 133)) := ⟨rfl, rfl, rfl, by decide +kernel, rfl, by decide +kernel, by decide +kernel⟩
def u__law_draw_11 (K : PySem.W.Frag) (A : Ad) (cs : List Int) : DTS :=
  (dRet (dOp gMod (dCB gInt (dCons (dOp gDiv (dOp gMod (dCB gInt (dCons (dOp gMul (dVar 5) (dOp gAdd (dVar 5) (dC (.int 47563)))) dNil)) (dC (.int 2147483323))) (dC (.int 64))) dNil)) (dVar 1)))
def u__law_draw_10 (K : PySem.W.Frag) (A : Ad) (cs : List Int) : DTS :=
  (dSeq (dAsg (dOp gMod (dCB gInt (dCons (dOp gAdd (dOp gAdd (dOp gMul (dVar 5) (dVar 5)) (dOp gMul (dC (.int 29501)) (dVar 5))) (dVar 3)) dNil)) (dC (.int 2147483353))) (dgName 5)) (u__law_draw_11 K A cs))
def u__law_draw_9 (K : PySem.W.Frag) (A : Ad) (cs : List Int) : DTS :=
  (dSeq (dAsg (dOp gMod (dCB gInt (dCons (dOp gAdd (dOp gAdd (dOp gAdd (dOp gMul (dVar 5) (dVar 5)) (dOp gMul (dC (.int 43793)) (dVar 5))) (dOp gMul (dC (.int 61)) (dVar 3))) (dC (.int 29))) dNil)) (dC (.int 2147483399))) (dgName 5)) (u__law_draw_10 K A cs))
def u__law_draw_8 (K : PySem.W.Frag) (A : Ad) (cs : List Int) : DTS :=
  (dSeq (dAsg (dOp gMod (dCB gInt (dCons (dOp gAdd (dOp gAdd (dVar 5) (dOp gMul (dC (.int 601)) (dVar 3))) (dC (.int 89))) dNil)) (dC (.int 2147483423))) (dgName 5)) (u__law_draw_9 K A cs))
def u__law_draw_7 (K : PySem.W.Frag) (A : Ad) (cs : List Int) : DTS :=
  (dSeq (dAsg (dOp gAdd (dOp gMul (dOp gMod (dCB gInt (dCons (dVar 4) dNil)) (dC (.int 2147483477))) (dC (.int 50119))) (dOp gMul (dOp gMul (dC (.int 31181)) (dVar 3)) (dVar 3))) (dgName 5)) (u__law_draw_8 K A cs))
def u__law_draw_6 (K : PySem.W.Frag) (A : Ad) (cs : List Int) : DTS :=
  (dSeq (dIfS (dAnd (dTest (dOp gLt (dVar 3) (dCB gLen (dCons (dPenC cs (dVar 0)) dNil)))) (dTest (dOp gGe (dCB gAbs (dCons (dVar 4) dNil)) (dOp gPow (dC (.int 10)) (dC (.int 18)))))) (dSeq (dPutL (dOp gDiv (dOp gSub (dCB gAbs (dCons (dVar 4) dNil)) (dOp gPow (dC (.int 10)) (dC (.int 18)))) (dVar 1)) (dVar 0))
    (dRet (dOp gMod (dCB gInt (dCons (dOp gSub (dCB gAbs (dCons (dVar 4) dNil)) (dOp gPow (dC (.int 10)) (dC (.int 18)))) dNil)) (dVar 1)))) dNext) (u__law_draw_7 K A cs))
def u__law_draw_5 (K : PySem.W.Frag) (A : Ad) (cs : List Int) : DTS :=
  (dSeq (dIfS (dTest (dOp gNe (dPenC cs (dVar 0)) (dLst dNil))) (dAsg (dOp gIx (dPenC cs (dVar 0)) (dOp gMod (dCB gInt (dCons (dVar 3) dNil)) (dCB gLen (dCons (dPenC cs (dVar 0)) dNil)))) (dgName 4)) dNext) (u__law_draw_6 K A cs))
def u__law_draw_4 (K : PySem.W.Frag) (A : Ad) (cs : List Int) : DTS :=
  (dSeq (dAsg (dOp gAdd (dOp gMul (dC (.int 83)) (dVar 3)) (dC (.int 59))) (dgName 4)) (u__law_draw_5 K A cs))
def u__law_draw_3 (K : PySem.W.Frag) (A : Ad) (cs : List Int) : DTS :=
  (dSeq (dPutA (dOp gAdd (dVar 3) (dC (.int 1))) (dVar 0)) (u__law_draw_4 K A cs))
def u__law_draw_2 (K : PySem.W.Frag) (A : Ad) (cs : List Int) : DTS :=
  (dSeq (dAsg (dPenA (dVar 0)) (dgName 3)) (u__law_draw_3 K A cs))
def t__law_draw (K : PySem.W.Frag) (A : Ad) (cs : List Int) : DTS :=
  (dSeq (dIfS (dTest (dOp gGt (dPenL (dVar 0)) (dC (.int 0)))) (dSeq (dAsg (dOp gMod (dCB gInt (dCons (dPenL (dVar 0)) dNil)) (dVar 1)) (dgName 2))
    (dSeq (dPutL (dOp gDiv (dPenL (dVar 0)) (dVar 1)) (dVar 0))
    (dRet (dVar 2)))) dNext) (u__law_draw_2 K A cs))
abbrev N__law_pick : List Str := ["_law_pen", "_law_some"]
theorem sc__law_pick : FnScope N__law_pick ["_law_pen", "_law_some"] (defScope (top 134)) := ⟨rfl, rfl, rfl, by decide +kernel, rfl, by decide +kernel, by decide +kernel⟩
def t__law_pick (K : PySem.W.Frag) (A : Ad) (cs : List Int) : DTS :=
  (dRet (dOp gIx (dVar 1) (dCal 2 (s__law_draw A) (dCons (dVar 0) (dCons (dCB gLen (dCons (dVar 1) dNil)) dNil)))))
abbrev N_Ratio_eq : List Str := ["self", "other"]
theorem sc_Ratio_eq : FnScope N_Ratio_eq ["self", "other"] (defScope (inClass (top 17) 1)) := ⟨rfl, rfl, rfl, by decide +kernel, rfl, by decide +kernel, by decide +kernel⟩
def t_Ratio_eq (K : PySem.W.Frag) (A : Ad) (cs : List Int) : DTS :=
  (dRet (dAndV (dCB (gIsi K) (dCons (dVar 1) (dCons (dC (.ref A.Ratio)) dNil))) (dAndV (dOp gEq (dFld [A.Ratio] "top" (dVar 0)) (dFld [A.Ratio] "top" (dVar 1))) (dOp gEq (dFld [A.Ratio] "bottom" (dVar 0)) (dFld [A.Ratio] "bottom" (dVar 1))))))
abbrev N_Fault_eq : List Str := ["self", "other"]
theorem sc_Fault_eq : FnScope N_Fault_eq ["self", "other"] (defScope (inClass (top 117) 1)) := ⟨rfl, rfl, rfl, by decide +kernel, rfl, by decide +kernel, by decide +kernel⟩
def t_Fault_eq (K : PySem.W.Frag) (A : Ad) (cs : List Int) : DTS :=
  (dRet (dAndV (dCB (gIsi K) (dCons (dVar 1) (dCons (dC (.ref A.Fault)) dNil))) (dOp gEq (dFld [A.Fault] "kind" (dVar 0)) (dFld [A.Fault] "kind" (dVar 1)))))
abbrev N_Grid_eq : List Str := ["self", "other"]
theorem sc_Grid_eq : FnScope N_Grid_eq ["self", "other"] (defScope (inClass (top 125) 1)) := ⟨rfl, rfl, rfl, by decide +kernel, rfl, by decide +kernel, by decide +kernel⟩
def t_Grid_eq (K : PySem.W.Frag) (A : Ad) (cs : List Int) : DTS :=
  (dRet (dAndV (dCB (gIsi K) (dCons (dVar 1) (dCons (dC (.ref A.Grid)) dNil))) (dOp (gEqS [(A.Ratio, (s_Ratio_eq A)), (A.Fault, (s_Fault_eq A))]) (dFld [A.Grid] "rows" (dVar 0)) (dFld [A.Grid] "rows" (dVar 1)))))
abbrev N__law_refused : List Str := ["_law_call", "_law_value_here", "e"]
theorem sc_law_refused : FnScope N__law_refused ["_law_call", "_law_value_here"] (defScope (top 139)) := ⟨rfl, rfl, rfl, by decide +kernel, rfl, by decide +kernel, by decide +kernel⟩
def t__law_refused (K : PySem.W.Frag) (A : Ad) (f c : Addr) (q : Str) (σ : List (Option V)) (δ : List (Option D)) (fb : DTE) : DTS :=
  (dSeq (dTry K (dDrop (dAct 0 f c q σ δ fb)) [(.ref A.BadValue, 2, fun a cls d => (dRet (dOp (gEqS [(A.Grid, (s_Grid_eq A))]) (dXf a cls d A.BadValue "value" (dVar 2)) (dVar 1))))])
    (dRet (dC (.bl false))))
abbrev N_Fault_init : List Str := ["self", "kind"]
theorem sc_Fault_init : FnScope N_Fault_init ["self", "kind"] (defScope (inClass (top 117) 0)) := ⟨rfl, rfl, rfl, by decide +kernel, rfl, by decide +kernel, by decide +kernel⟩
def t_Fault_init (K : PySem.W.Frag) (A : Ad) (cs : List Int) : DTS :=
  (dSeq (dIfS (dOr (dNot (dTest (dCB (gIsi K) (dCons (dVar 1) (dCons (dC (.ty "str")) dNil))))) (dTest (dOp gNotIn (dVar 1) (dC (.tup [.str [68, 73, 86], .str [86, 65, 76, 85, 69], .str [82, 69, 70], .str [78, 65, 77, 69], .str [78, 85, 77], .str [78, 65], .str [83, 80, 73, 76, 76], .str [82, 73, 78, 71]]))))) (dRaise A.BadValue "value" (dCons (dVar 1) dNil)) dNext)
    (dAsg (dVar 1) (dgFld [A.Fault] "kind" (dVar 0))))
abbrev N_part_within : List Str := ["grid", "row", "column", "down", "right"]
theorem sc_part_within : FnScope N_part_within ["grid", "row", "column"] (defScope (top 128)) := ⟨rfl, rfl, rfl, by decide +kernel, rfl, by decide +kernel, by decide +kernel⟩
def u_part_within_4 (K : PySem.W.Frag) (A : Ad) (cs : List Int) : DTS :=
  (dRet (dOp gIx (dOp gIx (dFld [A.Grid] "rows" (dVar 0)) (dOp gSub (dVar 3) (dC (.int 1)))) (dOp gSub (dVar 4) (dC (.int 1)))))
def u_part_within_3 (K : PySem.W.Frag) (A : Ad) (cs : List Int) : DTS :=
  (dSeq (dIfS (dOr (dTest (dOp gGt (dVar 3) (dFld [A.Grid] "height" (dVar 0)))) (dTest (dOp gGt (dVar 4) (dFld [A.Grid] "width" (dVar 0))))) (dRet (dNew 1 [] g_Fault_new0 (s_Fault A) (dCons (dC (.str [78, 65])) dNil) dNil)) dNext) (u_part_within_4 K A cs))
def u_part_within_2 (K : PySem.W.Frag) (A : Ad) (cs : List Int) : DTS :=
  (dSeq (dAsg (dIf (dTest (dOp gEq (dFld [A.Grid] "width" (dVar 0)) (dC (.int 1)))) (dC (.int 1)) (dVar 2)) (dgName 4)) (u_part_within_3 K A cs))
def t_part_within (K : PySem.W.Frag) (A : Ad) (cs : List Int) : DTS :=
  (dSeq (dAsg (dIf (dTest (dOp gEq (dFld [A.Grid] "height" (dVar 0)) (dC (.int 1)))) (dC (.int 1)) (dVar 1)) (dgName 3)) (u_part_within_2 K A cs))
abbrev N_part_at : List Str := ["grid", "row", "column", "number"]
theorem sc_part_at : FnScope N_part_at ["grid", "row", "column"] (defScope (top 130)) := ⟨rfl, rfl, rfl, by decide +kernel, rfl, by decide +kernel, by decide +kernel⟩
def u_part_at_3 (K : PySem.W.Frag) (A : Ad) (cs : List Int) : DTS :=
  (dRet (dCal 3 (s_part_within A) (dCons (dVar 0) (dCons (dVar 1) (dCons (dVar 2) dNil)))))
def l_part_at_2 (K : PySem.W.Frag) (A : Ad) (cs : List Int) : DTS :=
  (dIfS (dOr (dNot (dTest (dCal 1 (s_is_integer A) (dCons (dVar 3) dNil)))) (dTest (dOp gLt (dVar 3) (dC (.int 1))))) (dRaise A.BadValue "value" (dCons (dVar 3) dNil)) dNext)
def u_part_at_2 (K : PySem.W.Frag) (A : Ad) (cs : List Int) : DTS :=
  (dSeq (dFor (diSeq (dTup (dCons (dVar 1) (dCons (dVar 2) dNil)))) (dgName 3) (l_part_at_2 K A cs)) (u_part_at_3 K A cs))
def t_part_at (K : PySem.W.Frag) (A : Ad) (cs : List Int) : DTS :=
  (dSeq (dIfS (dNot (dTest (dCB (gIsi K) (dCons (dVar 0) (dCons (dC (.ref A.Grid)) dNil))))) (dRaise A.BadValue "value" (dCons (dVar 0) dNil)) dNext) (u_part_at_2 K A cs))
abbrev N__law_are_refused : List Str := ["_law_pen", "_law_grid", "_law_wrong", "_law_place", "_law_calls", "_law_call", "_law_value_here"]
theorem sc__law_are_refused : FnScope N__law_are_refused ["_law_pen", "_law_grid"] (defScope (top 140)) := ⟨rfl, rfl, rfl, by decide +kernel, rfl, by decide +kernel, by decide +kernel⟩
def Lm__law_are_refused : Nat → Src
  | 0 => lamAtT (top 140) 1 0 (("_law_are_refused" : Str) ++ ".<locals>." ++ "<lambda>")
  | 1 => lamAtT (top 140) 2 0 (("_law_are_refused" : Str) ++ ".<locals>." ++ "<lambda>")
  | 2 => lamAtT (top 140) 3 0 (("_law_are_refused" : Str) ++ ".<locals>." ++ "<lambda>")
  | 3 => lamAtT (top 140) 4 0 (("_law_are_refused" : Str) ++ ".<locals>." ++ "<lambda>")
  | 4 => lamAtT (top 140) 5 0 (("_law_are_refused" : Str) ++ ".<locals>." ++ "<lambda>")
  | 5 => lamAtT (top 140) 6 0 (("_law_are_refused" : Str) ++ ".<locals>." ++ "<lambda>")
  | 6 => lamAtT (top 140) 7 0 (("_law_are_refused" : Str) ++ ".<locals>." ++ "<lambda>")
  | _ => lamAt (top 140) 0 0 ""
def fb__law_are_refused (K : PySem.W.Frag) (A : Ad) (cs : List Int) : Nat → DTE
  | 0 => (dCal 3 (s_part_at A) (dCons (dVar 2) (dCons (dC (.int 1)) (dCons (dC (.int 1)) dNil))))
  | 1 => (dCal 3 (s_part_at A) (dCons (dVar 1) (dCons (dVar 3) (dCons (dC (.int 1)) dNil))))
  | 2 => (dCal 3 (s_part_at A) (dCons (dVar 1) (dCons (dC (.int 1)) (dCons (dVar 3) dNil))))
  | 3 => (dCal 3 (s_part_at A) (dCons (dVar 1) (dCons (dVar 3) (dCons (dC .non) dNil))))
  | 4 => (dCal 1 (s_stretched A) (dCons (dLst (dCons (dVar 1) (dCons (dVar 2) (dCons (dVar 3) dNil)))) dNil))
  | 5 => (dCal 1 (s_stretched A) (dCons (dLst dNil) dNil))
  | 6 => (dCal 1 (s_stretched A) (dCons (dVar 1) dNil))
  | _ => fun _ _ _ _ => False
def u__law_are_refused_9 (K : PySem.W.Frag) (A : Ad) (cs : List Int) (fr : List (Str × Addr)) (Lm : Nat → Src) : DTS :=
  (dRet (dCB gAll (dCons (dLc (diSeq (dFrz (dVar 4))) (dgTup 2 (dgCons (dgName 5) (dgCons (dgName 6) dgNil))) dYes (dToldV2 (s_law_refused A) 7 Lm fr (fb__law_are_refused K A cs) [5, 6] (dVar 5) (dVar 6)) [5, 6]) dNil)))
def u__law_are_refused_8 (K : PySem.W.Frag) (A : Ad) (cs : List Int) (fr : List (Str × Addr)) (Lm : Nat → Src) : DTS :=
  (dSeq (dDrop (dApp (dVar 4) (dTup (dCons (dLamV (Lm 6) fr) (dCons (dVar 1) dNil))))) (u__law_are_refused_9 K A cs fr Lm))
def u__law_are_refused_7 (K : PySem.W.Frag) (A : Ad) (cs : List Int) (fr : List (Str × Addr)) (Lm : Nat → Src) : DTS :=
  (dSeq (dDrop (dApp (dVar 4) (dTup (dCons (dLamV (Lm 5) fr) (dCons (dLst dNil) dNil))))) (u__law_are_refused_8 K A cs fr Lm))
def u__law_are_refused_6 (K : PySem.W.Frag) (A : Ad) (cs : List Int) (fr : List (Str × Addr)) (Lm : Nat → Src) : DTS :=
  (dSeq (dDrop (dApp (dVar 4) (dTup (dCons (dLamV (Lm 4) fr) (dCons (dVar 2) dNil))))) (u__law_are_refused_7 K A cs fr Lm))
def u__law_are_refused_5 (K : PySem.W.Frag) (A : Ad) (cs : List Int) (fr : List (Str × Addr)) (Lm : Nat → Src) : DTS :=
  (dSeq (dDrop (dApp (dVar 4) (dTup (dCons (dLamV (Lm 3) fr) (dCons (dVar 3) dNil))))) (u__law_are_refused_6 K A cs fr Lm))
def u__law_are_refused_4 (K : PySem.W.Frag) (A : Ad) (cs : List Int) (fr : List (Str × Addr)) (Lm : Nat → Src) : DTS :=
  (dSeq (dDrop (dApp (dVar 4) (dTup (dCons (dLamV (Lm 2) fr) (dCons (dVar 3) dNil))))) (u__law_are_refused_5 K A cs fr Lm))
def u__law_are_refused_3 (K : PySem.W.Frag) (A : Ad) (cs : List Int) (fr : List (Str × Addr)) (Lm : Nat → Src) : DTS :=
  (dSeq (dDrop (dApp (dVar 4) (dTup (dCons (dLamV (Lm 1) fr) (dCons (dVar 3) dNil))))) (u__law_are_refused_4 K A cs fr Lm))
def u__law_are_refused_2 (K : PySem.W.Frag) (A : Ad) (cs : List Int) (fr : List (Str × Addr)) (Lm : Nat → Src) : DTS :=
  (dSeq (dAsg (dLstM (dCons (dTup (dCons (dLamV (Lm 0) fr) (dCons (dVar 2) dNil))) dNil)) (dgName 4)) (u__law_are_refused_3 K A cs fr Lm))
def t__law_are_refused (K : PySem.W.Frag) (A : Ad) (cs : List Int) (fr : List (Str × Addr)) (Lm : Nat → Src) : DTS :=
  (dForg (dSeq (dAsg (dTup (dCons (dCal 2 (s__law_pick A) (dCons (dVar 0) (dCons (dLst (dCons (dC .non) (dCons (dC (.int 1)) (dCons (dC (.str [65, 49])) (dCons (dLst (dCons (dLst (dCons (dC (.int 1)) dNil)) dNil)) (dCons (dC (.bl true)) dNil)))))) dNil))) (dCons (dCal 2 (s__law_pick A) (dCons (dVar 0) (dCons (dLst (dCons (dC (.int 0)) (dCons (dNeg (dC (.int 1))) (dCons (dC (.str [49])) (dCons (dC .non) (dCons (dC (.bl true)) (dCons (dNeg (dOp gPow (dC (.int 10)) (dC (.int 20)))) dNil))))))) dNil))) dNil))) (dgTup 2 (dgCons (dgName 2) (dgCons (dgName 3) dgNil)))) (u__law_are_refused_2 K A cs fr Lm)))
abbrev N_need_integer : List Str := ["value"]
theorem sc_need_integer : FnScope N_need_integer ["value"] (defScope (top 10)) := ⟨rfl, rfl, rfl, by decide +kernel, rfl, by decide +kernel, by decide +kernel⟩
def t_need_integer (K : PySem.W.Frag) (A : Ad) (cs : List Int) : DTS :=
  (dIfS (dNot (dTest (dCal 1 (s_is_integer A) (dCons (dVar 0) dNil)))) (dRaise A.BadValue "value" (dCons (dVar 0) dNil)) dNext)
abbrev N_common_whole : List Str := ["one", "other"]
theorem sc_common_whole : FnScope N_common_whole ["one", "other"] (defScope (top 14)) := ⟨rfl, rfl, rfl, by decide +kernel, rfl, by decide +kernel, by decide +kernel⟩
def l_common_whole_1 (K : PySem.W.Frag) (A : Ad) (cs : List Int) : DTS :=
  (dPar 0 1 (dCons (dVar 1) (dCons (dOp gMod (dVar 0) (dVar 1)) dNil)))
def t_common_whole (K : PySem.W.Frag) (A : Ad) (cs : List Int) : DTS :=
  (dSeq (dPar 0 1 (dCons (dCB gAbs (dCons (dVar 0) dNil)) (dCons (dCB gAbs (dCons (dVar 1) dNil)) dNil)))
    (dSeq (dWhile (dTest (dOp gGt (dVar 1) (dC (.int 0)))) (l_common_whole_1 K A cs))
    (dRet (dVar 0))))
abbrev N_Ratio_init : List Str := ["self", "top", "bottom", "factor"]
theorem sc_Ratio_init : FnScope N_Ratio_init ["self", "top", "bottom"] (defScope (inClass (top 17) 0)) := ⟨rfl, rfl, rfl, by decide +kernel, rfl, by decide +kernel, by decide +kernel⟩
def u_Ratio_init_6 (K : PySem.W.Frag) (A : Ad) (cs : List Int) : DTS :=
  (dAsg (dTup (dCons (dOp gFDiv (dVar 1) (dVar 3)) (dCons (dOp gFDiv (dVar 2) (dVar 3)) dNil))) (dgTup 2 (dgCons (dgFld [A.Ratio] "top" (dVar 0)) (dgCons (dgFld [A.Ratio] "bottom" (dVar 0)) dgNil))))
def u_Ratio_init_5 (K : PySem.W.Frag) (A : Ad) (cs : List Int) : DTS :=
  (dSeq (dIfS (dTest (dOp gLt (dVar 2) (dC (.int 0)))) (dAsg (dNeg (dVar 3)) (dgName 3)) dNext) (u_Ratio_init_6 K A cs))
def u_Ratio_init_4 (K : PySem.W.Frag) (A : Ad) (cs : List Int) : DTS :=
  (dSeq (dAsg (dCal 2 (s_common_whole A) (dCons (dVar 1) (dCons (dVar 2) dNil))) (dgName 3)) (u_Ratio_init_5 K A cs))
def u_Ratio_init_3 (K : PySem.W.Frag) (A : Ad) (cs : List Int) : DTS :=
  (dSeq (dIfS (dTest (dOp gEq (dVar 2) (dC (.int 0)))) (dRaise0 A.NoDivisor) dNext) (u_Ratio_init_4 K A cs))
def u_Ratio_init_2 (K : PySem.W.Frag) (A : Ad) (cs : List Int) : DTS :=
  (dSeq (dDrop (dCal 1 (s_need_integer A) (dCons (dVar 2) dNil))) (u_Ratio_init_3 K A cs))
def t_Ratio_init (K : PySem.W.Frag) (A : Ad) (cs : List Int) : DTS :=
  (dSeq (dDrop (dCal 1 (s_need_integer A) (dCons (dVar 1) dNil))) (u_Ratio_init_2 K A cs))
abbrev N__law_value : List Str := ["_law_pen", "_law_number"]
theorem sc__law_value : FnScope N__law_value ["_law_pen"] (defScope (top 135)) := ⟨rfl, rfl, rfl, by decide +kernel, rfl, by decide +kernel, by decide +kernel⟩
def u__law_value_2 (K : PySem.W.Frag) (A : Ad) (cs : List Int) : DTS :=
  (dRet (dCal 2 (s__law_pick A) (dCons (dVar 0) (dCons (dLst (dCons (dVar 1) (dCons (dVar 1) (dCons (dOp gAdd (dC (.str [120])) (dCB gStr (dCons (dCal 2 (s__law_draw A) (dCons (dVar 0) (dCons (dC (.int 9)) dNil))) dNil))) (dCons (dOp gEq (dCal 2 (s__law_draw A) (dCons (dVar 0) (dCons (dC (.int 2)) dNil))) (dC (.int 0))) (dCons (dC .non) (dCons (dNew 1 [] g_Fault_new0 (s_Fault A) (dCons (dC (.str [78, 65])) dNil) dNil) (dCons (dNew 1 [] g_Fault_new0 (s_Fault A) (dCons (dC (.str [68, 73, 86])) dNil) dNil) dNil)))))))) dNil))))
def t__law_value (K : PySem.W.Frag) (A : Ad) (cs : List Int) : DTS :=
  (dSeq (dAsg (dNew 2 [] g_Ratio_new1 (s_Ratio A) (dCons (dOp gSub (dCal 2 (s__law_draw A) (dCons (dVar 0) (dCons (dC (.int 2001)) dNil))) (dC (.int 1000))) (dCons (dOp gAdd (dC (.int 1)) (dCal 2 (s__law_draw A) (dCons (dVar 0) (dCons (dC (.int 9)) dNil)))) dNil)) dNil) (dgName 1)) (u__law_value_2 K A cs))
abbrev N__law_rows : List Str := ["_law_pen", "_law_height", "_law_width", "_law_column", "_law_row"]
theorem sc__law_rows : FnScope N__law_rows ["_law_pen"] (defScope (top 136)) := ⟨rfl, rfl, rfl, by decide +kernel, rfl, by decide +kernel, by decide +kernel⟩
def u__law_rows_3 (K : PySem.W.Frag) (A : Ad) (cs : List Int) : DTS :=
  (dRet (dLc (diRange1 (dCons (dVar 1) dNil)) (dgName 4) dYes (dLc (diRange1 (dCons (dVar 2) dNil)) (dgName 3) dYes (dCal 1 (s__law_value A) (dCons (dVar 0) dNil)) [3]) [4]))
def u__law_rows_2 (K : PySem.W.Frag) (A : Ad) (cs : List Int) : DTS :=
  (dSeq (dIfS (dTest (dOp gEq (dCal 2 (s__law_draw A) (dCons (dVar 0) (dCons (dC (.int 40)) dNil))) (dC (.int 0)))) (dSeq (dAsg (dCal 2 (s__law_pick A) (dCons (dVar 0) (dCons (dLst (dCons (dTup (dCons (dC (.int 100)) (dCons (dC (.int 100)) dNil))) (dCons (dTup (dCons (dC (.int 1)) (dCons (dC (.int 10000)) dNil))) (dCons (dTup (dCons (dC (.int 10000)) (dCons (dC (.int 1)) dNil))) (dCons (dTup (dCons (dC (.int 99)) (dCons (dC (.int 3)) dNil))) dNil))))) dNil))) (dgTup 2 (dgCons (dgName 1) (dgCons (dgName 2) dgNil))))
    (dRet (dLc (diRange1 (dCons (dVar 1) dNil)) (dgName 4) dYes (dLc (diRange1 (dCons (dVar 2) dNil)) (dgName 3) dYes (dNew 1 [] g_Ratio_new2 (s_Ratio A) (dCons (dOp gAdd (dOp gMul (dVar 4) (dVar 2)) (dVar 3)) dNil) dNil) [3]) [4]))) dNext) (u__law_rows_3 K A cs))
def t__law_rows (K : PySem.W.Frag) (A : Ad) (cs : List Int) : DTS :=
  (dSeq (dAsg (dTup (dCons (dCal 2 (s__law_pick A) (dCons (dVar 0) (dCons (dLst (dCons (dC (.int 1)) (dCons (dC (.int 1)) (dCons (dOp gAdd (dC (.int 1)) (dCal 2 (s__law_draw A) (dCons (dVar 0) (dCons (dC (.int 5)) dNil)))) dNil)))) dNil))) (dCons (dCal 2 (s__law_pick A) (dCons (dVar 0) (dCons (dLst (dCons (dC (.int 1)) (dCons (dC (.int 1)) (dCons (dOp gAdd (dC (.int 1)) (dCal 2 (s__law_draw A) (dCons (dVar 0) (dCons (dC (.int 5)) dNil)))) dNil)))) dNil))) dNil))) (dgTup 2 (dgCons (dgName 1) (dgCons (dgName 2) dgNil)))) (u__law_rows_2 K A cs))
abbrev N__law_same : List Str := ["_law_one", "_law_other"]
theorem sc__law_same : FnScope N__law_same ["_law_one", "_law_other"] (defScope (top 138)) := ⟨rfl, rfl, rfl, by decide +kernel, rfl, by decide +kernel, by decide +kernel⟩
def t__law_same (K : PySem.W.Frag) (A : Ad) (cs : List Int) : DTS :=
  (dRet (dAndV (dOp (gEqS [(A.Ratio, (s_Ratio_eq A)), (A.Fault, (s_Fault_eq A))]) (dCB (gIsi K) (dCons (dVar 0) (dCons (dC (.ty "bool")) dNil))) (dCB (gIsi K) (dCons (dVar 1) (dCons (dC (.ty "bool")) dNil)))) (dOp (gEqS [(A.Ratio, (s_Ratio_eq A)), (A.Fault, (s_Fault_eq A))]) (dVar 0) (dVar 1))))
abbrev N__law_given : List Str := ["_law_rows_here", "_law_row", "_law_column", "_law_down", "_law_right"]
theorem sc__law_given : FnScope N__law_given ["_law_rows_here", "_law_row", "_law_column"] (defScope (top 137)) := ⟨rfl, rfl, rfl, by decide +kernel, rfl, by decide +kernel, by decide +kernel⟩
def u__law_given_3 (K : PySem.W.Frag) (A : Ad) (cs : List Int) : DTS :=
  (dRet (dIf (dAnd (dTest (dOp gLe (dVar 3) (dCB gLen (dCons (dVar 0) dNil)))) (dTest (dOp gLe (dVar 4) (dCB gLen (dCons (dOp gIx (dVar 0) (dC (.int 0))) dNil))))) (dOp gIx (dOp gIx (dVar 0) (dOp gSub (dVar 3) (dC (.int 1)))) (dOp gSub (dVar 4) (dC (.int 1)))) (dNew 1 [] g_Fault_new0 (s_Fault A) (dCons (dC (.str [78, 65])) dNil) dNil)))
def u__law_given_2 (K : PySem.W.Frag) (A : Ad) (cs : List Int) : DTS :=
  (dSeq (dAsg (dIf (dTest (dOp gEq (dCB gLen (dCons (dOp gIx (dVar 0) (dC (.int 0))) dNil)) (dC (.int 1)))) (dC (.int 1)) (dVar 2)) (dgName 4)) (u__law_given_3 K A cs))
def t__law_given (K : PySem.W.Frag) (A : Ad) (cs : List Int) : DTS :=
  (dSeq (dAsg (dIf (dTest (dOp gEq (dCB gLen (dCons (dVar 0) dNil)) (dC (.int 1)))) (dC (.int 1)) (dVar 1)) (dgName 3)) (u__law_given_2 K A cs))
abbrev N_law : List Str := ["_law_script", "_law_pen", "_law_tables", "_law_k", "_law_grids", "_law_row", "_law_rows_here", "_law_height", "_law_width", "_law_kept", "_law_told", "_law_turn", "_law_column"]
theorem sc_law : FnScope N_law ["_law_script"] (defScope (top 141)) := ⟨rfl, rfl, rfl, by decide +kernel, rfl, by decide +kernel, by decide +kernel⟩
def u_law_8 (K : PySem.W.Frag) (A : Ad) (cs : List Int) : DTS :=
  (dRet (dCal 2 (s__law_are_refused A) (dCons (dVar 1) (dCons (dOp gIx (dVar 4) (dC (.int 0))) dNil))))
def l_law_2 (K : PySem.W.Frag) (A : Ad) (cs : List Int) : DTS :=
  (dSeq (dPar 5 12 (dCons (dOp gAdd (dC (.int 1)) (dCal 2 (s__law_draw A) (dCons (dVar 1) (dCons (dOp gAdd (dVar 7) (dC (.int 2))) dNil)))) (dCons (dOp gAdd (dC (.int 1)) (dCal 2 (s__law_draw A) (dCons (dVar 1) (dCons (dOp gAdd (dVar 8) (dC (.int 2))) dNil)))) dNil)))
    (dSeq (dIfS (dTest (dOp gLt (dVar 11) (dC (.int 4)))) (dSeq (dAsg (dCal 2 (s__law_pick A) (dCons (dVar 1) (dCons (dLst (dCons (dCB gLen (dCons (dOp gIx (dVar 2) (dVar 3)) dNil)) (dCons (dOp gAdd (dCB gLen (dCons (dOp gIx (dVar 2) (dVar 3)) dNil)) (dC (.int 1))) (dCons (dC (.int 1000000)) (dCons (dOp gPow (dC (.int 10)) (dC (.int 20))) dNil))))) dNil))) (dgName 5))
    (dAsg (dCal 2 (s__law_pick A) (dCons (dVar 1) (dCons (dLst (dCons (dC (.int 1)) (dCons (dCB gLen (dCons (dOp gIx (dOp gIx (dVar 2) (dVar 3)) (dC (.int 0))) dNil)) (dCons (dOp gAdd (dCB gLen (dCons (dOp gIx (dOp gIx (dVar 2) (dVar 3)) (dC (.int 0))) dNil)) (dC (.int 1))) dNil)))) dNil))) (dgName 12))) dNext)
    (dIfS (dNot (dTest (dCal 2 (s__law_same A) (dCons (dCal 3 (s_part_at A) (dCons (dOp gIx (dVar 4) (dVar 3)) (dCons (dVar 5) (dCons (dVar 12) dNil)))) (dCons (dCal 3 (s__law_given A) (dCons (dOp gIx (dVar 2) (dVar 3)) (dCons (dVar 5) (dCons (dVar 12) dNil)))) dNil))))) (dRet (dC (.bl false))) dNext)))
def l_law_3 (K : PySem.W.Frag) (A : Ad) (cs : List Int) : DTS :=
  (dFor (diRange1 (dCons (dC (.int 12)) dNil)) (dgName 11) (l_law_2 K A cs))
def u_law_7 (K : PySem.W.Frag) (A : Ad) (cs : List Int) : DTS :=
  (dSeq (dFor (diRange1 (dCons (dCB gLen (dCons (dVar 2) dNil)) dNil)) (dgName 3) (l_law_3 K A cs)) (u_law_8 K A cs))
def u_law_6 (K : PySem.W.Frag) (A : Ad) (cs : List Int) : DTS :=
  (dSeq (dIfS (dOr (dTest (dOp (gNeS [(A.Grid, (s_Grid_eq A))]) (dVar 10) (dTup (dCons (dVar 7) (dCons (dVar 8) dNil))))) (dOr (dNot (dTest (dCB (gIsi K) (dCons (dVar 10) (dCons (dC (.ty "tuple")) dNil))))) (dOr (dTest (dOp (gNeS [(A.Grid, (s_Grid_eq A))]) (dCal 1 (s_stretched A) (dCons (dCB gTuple (dCons (dRevL (dVar 4)) dNil)) dNil)) (dTup (dCons (dVar 7) (dCons (dVar 8) dNil))))) (dTest (dOp (gNeS [(A.Grid, (s_Grid_eq A))]) (dVar 4) (dVar 9)))))) (dRet (dC (.bl false))) dNext) (u_law_7 K A cs))
def u_law_5 (K : PySem.W.Frag) (A : Ad) (cs : List Int) : DTS :=
  (dSeq (dAsg (dCal 1 (s_stretched A) (dCons (dVar 4) dNil)) (dgName 10)) (u_law_6 K A cs))
def u_law_4 (K : PySem.W.Frag) (A : Ad) (cs : List Int) : DTS :=
  (dSeq (dAsg (dCB gList (dCons (dVar 4) dNil)) (dgName 9)) (u_law_5 K A cs))
def u_law_3 (K : PySem.W.Frag) (A : Ad) (cs : List Int) : DTS :=
  (dSeq (dPar 7 8 (dCons (dCB gMaxL (dCons (dLc (diSeq (dVar 2)) (dgName 6) dYes (dCB gLen (dCons (dVar 6) dNil)) [6]) dNil)) (dCons (dCB gMaxL (dCons (dLc (diSeq (dVar 2)) (dgName 6) dYes (dCB gLen (dCons (dOp gIx (dVar 6) (dC (.int 0))) dNil)) [6]) dNil)) dNil))) (u_law_4 K A cs))
def u_law_2 (K : PySem.W.Frag) (A : Ad) (cs : List Int) : DTS :=
  (dSeq (dAsg (dLc (diSeq (dVar 2)) (dgName 6) dYes (dNew 1 [] g_Grid_new3 (s_Grid A) (dCons (dLc (diSeq (dVar 6)) (dgName 5) dYes (dCB gTuple (dCons (dVar 5) dNil)) [5]) dNil) dNil) [6]) (dgName 4)) (u_law_3 K A cs))
def t_law (K : PySem.W.Frag) (A : Ad) (cs : List Int) : DTS :=
  (dSeq (dAsg (dLc (diRange1 (dCons (dOp gAdd (dC (.int 1)) (dCal 2 (s__law_draw A) (dCons (dVar 1) (dCons (dC (.int 5)) dNil)))) dNil)) (dgName 3) dYes (dCal 1 (s__law_rows A) (dCons (dVar 1) dNil)) [3]) (dgName 2)) (u_law_2 K A cs))
-- end
end K43

set_option Elab.async false
set_option linter.all false
set_option maxRecDepth 100000
set_option maxHeartbeats 1000000
set_option autoImplicit false
/-! k03: ratios in plain Lean. -/
namespace K43
theorem gS_nz {t b : Int} (h : b ≠ 0) : gS t b ≠ 0 := by
  have := Int.gcd_ne_zero_right (a := t) h
  unfold gS
  split <;> omega
theorem gS_dl {t b : Int} : gS t b ∣ t := by
  unfold gS
  split
  · exact Int.neg_dvd.mpr (Int.gcd_dvd_left _ _)
  · exact (Int.gcd_dvd_left _ _)
theorem gS_dr {t b : Int} : gS t b ∣ b := by
  unfold gS
  split
  · exact Int.neg_dvd.mpr (Int.gcd_dvd_right _ _)
  · exact (Int.gcd_dvd_right _ _)
theorem nT_mul (t b : Int) : gS t b * nT t b = t := Int.mul_fdiv_cancel_of_dvd gS_dl
theorem nB_mul (t b : Int) : gS t b * nB t b = b := Int.mul_fdiv_cancel_of_dvd gS_dr
theorem nB_pos {t b : Int} (h : b ≠ 0) : 0 < nB t b := by
  have e := nB_mul t b
  have hg := Int.gcd_ne_zero_right (a := t) h
  by_cases c : b < 0
  · have hs : gS t b < 0 := by unfold gS; rw [if_pos c]; omega
    by_cases d : 0 < nB t b
    · exact d
    · have := Int.mul_nonneg_of_nonpos_of_nonpos (a := gS t b) (b := nB t b) (by omega) (by omega)
      omega
  · have hs : 0 < gS t b := by unfold gS; rw [if_neg c]; omega
    by_cases d : 0 < nB t b
    · exact d
    · have := Int.mul_nonpos_of_nonneg_of_nonpos (a := gS t b) (b := nB t b) (by omega) (by omega)
      omega
theorem nB_nz {t b : Int} (h : b ≠ 0) : nB t b ≠ 0 := by have := nB_pos (t := t) h; omega
/-- cross products -/
theorem n_cross (t b : Int) : nT t b * b = t * nB t b := by
  have h1 := nT_mul t b
  have h2 := nB_mul t b
  grind
theorem n_coprime {t b : Int} (h : b ≠ 0) : Int.gcd (nT t b) (nB t b) = 1 := by
  have h1 : Int.gcd t b = Int.gcd (gS t b * nT t b) (gS t b * nB t b) := by rw [nT_mul, nB_mul]
  rw [Int.gcd_mul_left] at h1
  have hg := Int.gcd_ne_zero_right (a := t) h
  have h3 : (gS t b).natAbs = Int.gcd t b := by unfold gS; split <;> simp
  rw [h3] at h1
  exact Nat.eq_of_mul_eq_mul_left (Nat.pos_of_ne_zero hg) (by omega)
theorem dvd_cop {B T C : Int} (h : Int.gcd T B = 1) (d : B ∣ T * C) : B ∣ C := by
  rw [← Int.natAbs_dvd_natAbs] at d ⊢
  rw [Int.natAbs_mul] at d
  refine Nat.Coprime.dvd_of_dvd_mul_left ?_ d
  show Nat.gcd _ _ = 1
  rw [Nat.gcd_comm]
  exact h
theorem n_unique {T B U C : Int} (h1 : Int.gcd T B = 1) (h2 : Int.gcd U C = 1) (b : 0 < B) (c : 0 < C) (h : T * C = U * B) : T = U ∧ B = C := by
  have d1 : B ∣ C := by
    have : B ∣ T * C := ⟨U, by rw [h, Int.mul_comm]⟩
    exact dvd_cop h1 this
  have d2 : C ∣ B := by
    have : C ∣ U * B := ⟨T, by rw [← h, Int.mul_comm]⟩
    exact dvd_cop h2 this
  have e : B = C := Int.dvd_antisymm (by omega) (by omega) d1 d2
  subst e
  exact ⟨Int.eq_of_mul_eq_mul_right (by omega) h, rfl⟩
/-- what a ratio is does not depend on how it is written -/
theorem n_eq {t b u d : Int} (hb : b ≠ 0) (hd : d ≠ 0) (h : t * d = u * b) : nT t b = nT u d ∧ nB t b = nB u d := by
  refine n_unique (n_coprime hb) (n_coprime hd) (nB_pos hb) (nB_pos hd) ?_
  have h1 := nT_mul t b
  have h2 := nB_mul t b
  have h3 := nT_mul u d
  have h4 := nB_mul u d
  have z1 := gS_nz (t := t) hb
  have z2 := gS_nz (t := u) hd
  have e : gS t b * gS u d * (nT t b * nB u d) = gS t b * gS u d * (nT u d * nB t b) := by grind
  exact Int.eq_of_mul_eq_mul_left (Int.mul_ne_zero z1 z2) e
theorem n_one (i : Int) : nT i 1 = i ∧ nB i 1 = 1 := by
  have : gS i 1 = 1 := by unfold gS; simp
  unfold nT nB
  rw [this]
  simp
/-! sizes -/
theorem sm_mono {j k : Nat} {x : Int} (h : sm j x) (hj : j ≤ k) : sm k x := Nat.lt_of_lt_of_le h (Nat.pow_le_pow_right (by decide) hj)
theorem sm_neg {k : Nat} {x : Int} (h : sm k x) : sm k (-x) := by unfold sm at *; omega
theorem sm_mul {j k : Nat} {x y : Int} (h : sm j x) (h' : sm k y) : sm (j + k) (x * y) := by
  unfold sm at *
  rw [Int.natAbs_mul, Nat.pow_add]
  exact Nat.mul_lt_mul'' h h'
theorem sm_add {k : Nat} {x y : Int} (h : sm k x) (h' : sm k y) : sm (k + 1) (x + y) := by
  unfold sm at *
  rw [Nat.pow_succ]
  omega
theorem sm_sub {k : Nat} {x y : Int} (h : sm k x) (h' : sm k y) : sm (k + 1) (x - y) := by
  unfold sm at *
  rw [Nat.pow_succ]
  omega
theorem sm_pow {k : Nat} {x : Int} (h : sm k x) : ∀ e : Nat, sm (k * e + 1) (x ^ e)
  | 0 => by unfold sm; simp
  | e + 1 => by
    have := sm_mul (sm_pow h e) h
    rw [Int.pow_succ]
    exact sm_mono this (by rw [Nat.mul_succ]; omega)
theorem sm_log {k m : Nat} {x : Int} (h : sm k x) (hk : k ≤ m) (hm : 0 < m) : x.natAbs.log2 < m := by
  by_cases z : x.natAbs = 0
  · rw [z]; simpa using hm
  · exact (Nat.log2_lt z).mpr (sm_mono h hk)
theorem natAbs_of_mul {g x t : Int} (e : g * x = t) (hg : g ≠ 0) : x.natAbs ≤ t.natAbs := by
  rw [← e, Int.natAbs_mul]
  exact Nat.le_mul_of_pos_left _ (by omega)
theorem sm_nT {k : Nat} {t b : Int} (hb : b ≠ 0) (h : sm k t) : sm k (nT t b) := Nat.lt_of_le_of_lt (natAbs_of_mul (nT_mul t b) (gS_nz hb)) h
theorem sm_nB {k : Nat} {t b : Int} (hb : b ≠ 0) (h : sm k b) : sm k (nB t b) := Nat.lt_of_le_of_lt (natAbs_of_mul (nB_mul t b) (gS_nz hb)) h
theorem sm_gcd {k : Nat} {t b : Int} (hb : b ≠ 0) (h : sm k b) : sm k (gS t b) := by
  have e := nB_mul t b
  rw [Int.mul_comm] at e
  exact Nat.lt_of_le_of_lt (natAbs_of_mul e (nB_nz hb)) h
/-! Euclid -/
theorem gcd_step {a b : Int} (ha : 0 ≤ a) (hb : 0 < b) : Int.gcd b (a % b) = Int.gcd a b := by
  obtain ⟨m, rfl⟩ := Int.eq_ofNat_of_zero_le ha
  obtain ⟨k, rfl⟩ := Int.eq_ofNat_of_zero_le (Int.le_of_lt hb)
  rw [← Int.natCast_emod, Int.gcd_natCast_natCast, Int.gcd_natCast_natCast, Nat.gcd_comm m k, Nat.gcd_rec k m, Nat.gcd_comm]
theorem gcd_zero {a : Int} (ha : 0 ≤ a) : (Int.gcd a 0 : Int) = a := by
  simp [Int.gcd_zero_right]
  omega
theorem gcd_abs (t b : Int) : Int.gcd (if t < 0 then -t else t) (if b < 0 then -b else b) = Int.gcd t b := by
  split <;> split <;> simp
end K43

set_option Elab.async false
set_option linter.all false
set_option maxRecDepth 100000
set_option maxHeartbeats 8000000
set_option autoImplicit false
/-! k43: draws, ratios. -/
namespace K43
open PySem PySem.Spec PyProof.Rows L2 DL
section
variable {P : Program} {K : PySem.W.Frag} {mg : Str → Option Value} {A : Ad} {cs : List Int}
theorem bound_mod {x m : Int} (h : 0 < m) : 0 ≤ x % m ∧ x % m < m := ⟨Int.emod_nonneg _ (by omega), Int.emod_lt_of_pos _ h⟩
theorem sm_of {k : Nat} {x : Int} (h : x < 2 ^ k) (h0 : 0 ≤ x) : sm k x := by
  obtain ⟨m, rfl⟩ := Int.eq_ofNat_of_zero_le h0
  show m < 2 ^ k
  exact Int.ofNat_lt.mp (by simpa using h)
theorem sm_of2 {k : Nat} {x : Int} (h : x < 2 ^ k) (h0 : -(2 ^ k) < x) : sm k x := by
  by_cases c : 0 ≤ x
  · exact sm_of h c
  · have := sm_neg (sm_of (k := k) (x := -x) (by omega) (by omega))
    rwa [Int.neg_neg] at this
theorem div_ok {i m : Int} {k : Nat} (h : 0 < m) (hm : sm k m) (hk : k ≤ 9000 := by decide) : DivOk i m := ⟨h, .inr (sm_log hm hk (by decide))⟩
theorem mul_l {i j : Int} (h : -(2 ^ 64) < i ∧ i < 2 ^ 64) : DL.MulOk i j := .inl (.inl h)
theorem mul_r {i j : Int} (h : -(2 ^ 64) < j ∧ j < 2 ^ 64) : DL.MulOk i j := .inl (.inr h)
theorem mul_ok {i j : Int} {k l : Nat} (hi : sm k i) (hj : sm l j) (hk : k + l + 2 ≤ 1000000 := by decide) : DL.MulOk i j := by
  refine .inr ?_
  have h1 := sm_log (m := k + 1) hi (by omega) (by omega)
  have h2 := sm_log (m := l + 1) hj (by omega) (by omega)
  omega
end
end K43
namespace DL
open PySem PySem.Spec PyProof.Rows L2
theorem kit_dct_int : kitB "dict" "int" = some false := by decide +kernel
theorem kit_dct_bool : kitB "dict" "bool" = some false := by decide +kernel
end DL
namespace K43
open PySem PySem.Spec PyProof.Rows L2 DL
section
variable {P : Program} {K : PySem.W.Frag} {mg : Str → Option Value} {A : Ad} {cs : List Int}
theorem nil_or {ns : List Int} {k : Bool → Prop} (h : k (decide (ns = []))) : eqD (.lst (ns.map D.int)) (.lst []) k := by
  have pi : ∀ ns : List Int, pyL (ns.map D.int) = some (ns.map PyData.int) := fun ns => by
    induction ns with
    | nil => rfl
    | cons n ns ih => simp only [List.map_cons, pyL, py, ih]
  have la : ∀ ns : List Int, PyData.canLayAll0 (ns.map PyData.int) = true ∧ PyData.depthAll (ns.map PyData.int) = 0 := fun ns => by
    induction ns with
    | nil => exact ⟨rfl, rfl⟩
    | cons n ns ih => simp only [List.map_cons, PyData.canLayAll0, PyData.canLay0, ih.1, PyData.depthAll, PyData.depth, ih.2, Bool.and_self, Nat.max_self, and_self]
  have sh : ∀ ns : List Int, SeqAt.shaped (.list (ns.map PyData.int)) = true := fun ns => by
    simp only [SeqAt.shaped, PyData.canLay0, (la ns).1, PyData.depth, (la ns).2, Bool.true_and]
    rfl
  refine ⟨.list (ns.map PyData.int), .list [], by simp only [py, pi, Option.map_some], rfl, sh ns, sh [], ?_⟩
  cases ns with
  | nil => exact h
  | cons n ns => exact h
theorem p_draw7 {m a z : Int} {n : NS} {x y : Option D} {q : D → NS → Prop} {e : DX} (hm : 0 < m) (ha : 0 ≤ a ∧ a < 1000000) (h : ∀ k : Int, 0 ≤ k → k < m → q (.int k) n) : u__law_draw_7 K A cs { nx := fun _ n' => q .non n', rt := q, ex := e } [some .pen, some (.int m), x, some (.int a), some (.int z), y] n := by
  unfold u__law_draw_7 u__law_draw_8 u__law_draw_9 u__law_draw_10 u__law_draw_11
  simp only [dSeq, dNext, dIfS, dTest, dOp, dVar, dC, dRet, dRetN, dGet, dAnd, dOr, dNot, dAndV, dOrV, dNotV, dIf, dNil, dCons, dTup, dLst, dCB, dM0, dM1, dDrop, dAsg, dgName, dPar, dCal, dChain, dRaise, dRaise2, dFor, diSeq, items, diRange1, diRange2, dLc, dYes, dgTup, dgCons, dgNil, dSl, dPart, dNoPart, dNeg, dPenC, dPenA, dPenL, dPutA, dPutL, dFld, dgFld, dNew, dMet, dLstM, dFrz, dApp, dgIx, dAug, startD, List.map_cons, List.map_nil, List.length_cons, List.length_nil, List.replicate, Nat.reduceAdd, Nat.reduceSub, List.cons_append, List.nil_append, List.append_nil, List.set_cons_zero, List.set_cons_succ, List.getElem?_cons_zero, List.getElem?_cons_succ, gInt, gMod, gI, gAdd, gMul, gDiv]
  repeat' (first | exact h _ (bound_mod hm).1 (bound_mod hm).2 | exact hm | apply And.intro | decide | exact ⟨by decide, .inl (by decide)⟩ | exact mul_l (by omega) | exact mul_r (by omega) | exact mul_l (by decide) | exact .inl (by decide) | exact mul_l ⟨by have := bound_mod (x := z) (m := 2147483477) (by decide); omega, by have := bound_mod (x := z) (m := 2147483477) (by decide); omega⟩)
theorem p_draw6 {m a z : Int} {n : NS} {x y : Option D} {q : D → NS → Prop} {e : DX} (hm : 0 < m) (hm2 : m < 1073741824) (ha : 0 ≤ a ∧ a < 1000000) (h : ∀ k : Int, 0 ≤ k → k < m → q (.int k) n) : u__law_draw_6 K A cs { nx := fun _ n' => q .non n', rt := q, ex := e } [some .pen, some (.int m), x, some (.int a), some (.int z), y] n := by
  unfold u__law_draw_6
  simp only [dSeq, dNext, dIfS, dTest, dOp, dVar, dC, dRet, dRetN, dGet, dAnd, dOr, dNot, dAndV, dOrV, dNotV, dIf, dNil, dCons, dTup, dLst, dCB, dM0, dM1, dDrop, dAsg, dgName, dPar, dCal, dChain, dRaise, dRaise2, dFor, diSeq, items, diRange1, diRange2, dLc, dYes, dgTup, dgCons, dgNil, dSl, dPart, dNoPart, dNeg, dPenC, dPenA, dPenL, dPutA, dPutL, dFld, dgFld, dNew, dMet, dLstM, dFrz, dApp, dgIx, dAug, startD, List.map_cons, List.map_nil, List.length_cons, List.length_nil, List.replicate, Nat.reduceAdd, Nat.reduceSub, List.cons_append, List.nil_append, List.append_nil, List.set_cons_zero, List.set_cons_succ, List.getElem?_cons_zero, List.getElem?_cons_succ, gLt, gOrd, gLen, List.length_map]
  intro hc
  by_cases c : a < (cs.length : Int)
  · simp only [c, decide_true, gPow, gI, gGe, gOrd, gAbs]
    refine ⟨⟨by decide, by decide, by decide⟩, ?_⟩
    by_cases d : (10 : Int) ^ Int.toNat 18 ≤ (if z < 0 then -z else z)
    · simp only [d, decide_true, DL.gSub, gI0, gDiv, gI, gInt, gMod]
      refine ⟨⟨by decide, by decide, by decide⟩, ⟨hm, .inl hm2⟩, Int.ediv_nonneg (by omega) (by omega), ⟨by decide, by decide, by decide⟩, hm, ?_⟩
      exact h _ (bound_mod hm).1 (bound_mod hm).2
    · simp only [d, decide_false]
      exact p_draw7 hm ha h
  · simp only [c, decide_false]
    exact p_draw7 hm ha h
theorem p__law_draw (ds : List D) (n : NS) (q : D → NS → Prop) (e : DY) (hl : ds.length = 2) (h : s__law_draw A ds n q e) : t__law_draw K A cs { nx := fun _ n' => q .non n', rt := q, ex := fun _ => e } (startD N__law_draw ds) n := by
  obtain ⟨m, rfl, hm, hm2, hn, h⟩ := h
  unfold t__law_draw u__law_draw_2 u__law_draw_3 u__law_draw_4 u__law_draw_5
  simp only [dSeq, dNext, dIfS, dTest, dOp, dVar, dC, dRet, dRetN, dGet, dAnd, dOr, dNot, dAndV, dOrV, dNotV, dIf, dNil, dCons, dTup, dLst, dCB, dM0, dM1, dDrop, dAsg, dgName, dPar, dCal, dChain, dRaise, dRaise2, dFor, diSeq, items, diRange1, diRange2, dLc, dYes, dgTup, dgCons, dgNil, dSl, dPart, dNoPart, dNeg, dPenC, dPenA, dPenL, dPutA, dPutL, dFld, dgFld, dNew, dMet, dLstM, dFrz, dApp, dgIx, dAug, startD, List.map_cons, List.map_nil, List.length_cons, List.length_nil, List.replicate, Nat.reduceAdd, Nat.reduceSub, List.cons_append, List.nil_append, List.append_nil, List.set_cons_zero, List.set_cons_succ, List.getElem?_cons_zero, List.getElem?_cons_succ, gGt, gOrd]
  intro l hl0
  by_cases c : l > 0
  · simp only [c, decide_true, gInt, gMod, gI, gDiv]
    intro l1 hl1
    refine ⟨hm, fun l2 hl2 => ⟨⟨hm, .inl hm2⟩, Int.ediv_nonneg hl2 (by omega), ?_⟩⟩
    exact h _ _ (Int.emod_nonneg _ (by omega)) (Int.emod_lt_of_pos _ hm) (Nat.le_refl _) (Nat.le_succ _)
  · simp only [c, decide_false]
    intro a ha0 ha1
    simp only [gAdd, gMul, gI]
    refine ⟨⟨by omega, by omega⟩, mul_l (by decide), ?_⟩
    simp only [gNe]
    intro hc
    refine ⟨by decide, nil_or ?_⟩
    have fin : ∀ (z : Int), u__law_draw_6 K A cs { nx := fun _ n' => q .non n', rt := q, ex := fun _ => e } [some .pen, some (.int m), none, some (.int a), some (.int z), none] ⟨n.at_ + 1, n.mu⟩ := fun z =>
      p_draw6 hm hm2 ⟨ha0, by unfold lim at hn; omega⟩ fun k h1 h2 => h k _ h1 h2 (Nat.le_succ _) (Nat.le_refl _)
    by_cases d : cs = []
    · simp only [d, decide_true, Bool.not_true]
      rw [← d]
      exact fin _
    · simp only [d, decide_false, Bool.not_false, gInt, gLen, gMod, gI, gIx, List.length_map]
      have hpos : 0 < cs.length := List.length_pos_iff.mpr d
      have hp : (0 : Int) < (cs.length : Int) := by omega
      have hb := bound_mod (x := a) hp
      intro _ _
      obtain ⟨j, hj⟩ : ∃ j : Nat, a % (cs.length : Int) = j := ⟨(a % (cs.length : Int)).toNat, by omega⟩
      refine ⟨hp, .int (cs[j]'(by omega)), ?_, fin _⟩
      rw [hj, atI_nat (by rw [List.length_map]; omega)]
      simp
theorem p__law_pick (ds : List D) (n : NS) (q : D → NS → Prop) (e : DY) (hl : ds.length = 2) (h : s__law_pick A ds n q e) : t__law_pick K A cs { nx := fun _ n' => q .non n', rt := q, ex := fun _ => e } (startD N__law_pick ds) n := by
  obtain ⟨xs, rfl, h0, h1, hn, h⟩ := h
  unfold t__law_pick
  simp only [dSeq, dNext, dIfS, dTest, dOp, dVar, dC, dRet, dRetN, dGet, dAnd, dOr, dNot, dAndV, dOrV, dNotV, dIf, dNil, dCons, dTup, dLst, dCB, dM0, dM1, dDrop, dAsg, dgName, dPar, dCal, dChain, dRaise, dRaise2, dFor, diSeq, items, diRange1, diRange2, dLc, dYes, dgTup, dgCons, dgNil, dSl, dPart, dNoPart, dNeg, dPenC, dPenA, dPenL, dPutA, dPutL, dFld, dgFld, dNew, dMet, dLstM, dFrz, dApp, dgIx, dAug, startD, List.map_cons, List.map_nil, List.length_cons, List.length_nil, List.replicate, Nat.reduceAdd, Nat.reduceSub, List.cons_append, List.nil_append, List.append_nil, List.set_cons_zero, List.set_cons_succ, List.getElem?_cons_zero, List.getElem?_cons_succ, gLen]
  refine ⟨trivial, _, rfl, by omega, by omega, hn, fun k t hk hk2 hn1 hn2 => ?_⟩
  obtain ⟨j, rfl⟩ : ∃ j : Nat, k = j := ⟨k.toNat, by omega⟩
  simp only [gIx]
  exact ⟨_, atI_nat (by omega), h _ _ (List.getElem_mem _) hn1 hn2⟩
theorem p_common_whole (ds : List D) (n : NS) (q : D → NS → Prop) (e : DY) (hl : ds.length = 2) (h : s_common_whole A ds n q e) : t_common_whole K A cs { nx := fun _ n' => q .non n', rt := q, ex := fun _ => e } (startD N_common_whole ds) n := by
  obtain ⟨t, b, rfl, ht, hb, h⟩ := h
  unfold t_common_whole
  simp only [dSeq, dNext, dIfS, dTest, dOp, dVar, dC, dRet, dRetN, dGet, dAnd, dOr, dNot, dAndV, dOrV, dNotV, dIf, dNil, dCons, dTup, dLst, dCB, dM0, dM1, dDrop, dAsg, dgName, dPar, dCal, dChain, dRaise, dRaise2, dFor, diSeq, items, diRange1, diRange2, dLc, dYes, dgTup, dgCons, dgNil, dSl, dPart, dNoPart, dNeg, dPenC, dPenA, dPenL, dPutA, dPutL, dFld, dgFld, dNew, dMet, dLstM, dFrz, dApp, dgIx, dAug, startD, List.map_cons, List.map_nil, List.length_cons, List.length_nil, List.replicate, Nat.reduceAdd, Nat.reduceSub, List.cons_append, List.nil_append, List.append_nil, List.set_cons_zero, List.set_cons_succ, List.getElem?_cons_zero, List.getElem?_cons_succ, gAbs, dWhile, gGt, gOrd, gMod, gI, l_common_whole_1]
  refine ⟨fun m δ n' => ∃ x y : Int, 0 ≤ x ∧ 0 ≤ y ∧ y.toNat = m ∧ Int.gcd x y = Int.gcd t b ∧ δ = [some (.int x), some (.int y)] ∧ n' = n, ⟨(if b < 0 then -b else b).toNat, _, _, by split <;> omega, by split <;> omega, rfl, gcd_abs t b, rfl, rfl⟩, ?_⟩
  rintro m δ n' ⟨x, y, hx, hy, rfl, hg, rfl, rfl⟩
  simp only [dSeq, dNext, dIfS, dTest, dOp, dVar, dC, dRet, dRetN, dGet, dAnd, dOr, dNot, dAndV, dOrV, dNotV, dIf, dNil, dCons, dTup, dLst, dCB, dM0, dM1, dDrop, dAsg, dgName, dPar, dCal, dChain, dRaise, dRaise2, dFor, diSeq, items, diRange1, diRange2, dLc, dYes, dgTup, dgCons, dgNil, dSl, dPart, dNoPart, dNeg, dPenC, dPenA, dPenL, dPutA, dPutL, dFld, dgFld, dNew, dMet, dLstM, dFrz, dApp, dgIx, dAug, startD, List.map_cons, List.map_nil, List.length_cons, List.length_nil, List.replicate, Nat.reduceAdd, Nat.reduceSub, List.cons_append, List.nil_append, List.append_nil, List.set_cons_zero, List.set_cons_succ, List.getElem?_cons_zero, List.getElem?_cons_succ]
  by_cases c : y > 0
  · simp only [c, decide_true]
    refine ⟨fun δ' n1 => δ' = [some (.int y), some (.int (x % y))] ∧ n1 = n', ?_, ?_⟩
    · rintro δ' n1 ⟨rfl, rfl⟩
      have hm := bound_mod (x := x) c
      exact ⟨(x % y).toNat, by omega, _, _, by omega, hm.1, rfl, by rw [gcd_step hx c, hg], rfl, rfl⟩
    · simp only [c, true_and, and_self]
  · simp only [c, decide_false]
    have : y = 0 := by omega
    subst this
    rw [← hg, gcd_zero hx] at h
    exact h
theorem f_top {n : NS} {q : D → NS → Prop} {t b : Int} : gFld [A.Ratio] "top" (ratD A t b) n q = q (.int t) n := gFld_ins (by simp) rfl
theorem f_bot {n : NS} {q : D → NS → Prop} {t b : Int} : gFld [A.Ratio] "bottom" (ratD A t b) n q = q (.int b) n := gFld_ins (by simp) rfl
theorem fdiv_ok {t b : Int} {k : Nat} (h : b ≠ 0) (hb : sm k b) (hk : k ≤ 9000 := by decide) : FDivOk (gS t b) := ⟨gS_nz h, sm_log (sm_gcd h hb) hk (by decide)⟩
theorem init6 {t b : Int} {a dx : Addr} {n : NS} {q : D → NS → Prop} {e : DX} (hm : n.mu a = some (.ins A.Ratio dx [] [])) (hb : b ≠ 0) (sb : sm 8000 b)
    (h : q .non ⟨n.at_, mup n.mu a (some (.ins A.Ratio dx ["top", "bottom"] [.int (nT t b), .int (nB t b)]))⟩) :
    u_Ratio_init_6 K A cs { nx := fun _ n' => q .non n', rt := q, ex := e } [some (.ref a), some (.int t), some (.int b), some (.int (gS t b))] n := by
  unfold u_Ratio_init_6
  simp only [dSeq, dNext, dIfS, dTest, dOp, dVar, dC, dRet, dRetN, dGet, dAnd, dOr, dNot, dAndV, dOrV, dNotV, dIf, dNil, dCons, dTup, dLst, dCB, dM0, dM1, dDrop, dAsg, dgName, dPar, dCal, dChain, dRaise, dRaise2, dFor, diSeq, items, diRange1, diRange2, dLc, dYes, dgTup, dgCons, dgNil, dSl, dPart, dNoPart, dNeg, dPenC, dPenA, dPenL, dPutA, dPutL, dgFld, dNew, dMet, dLstM, dFrz, dApp, dgIx, dAug, startD, List.map_cons, List.map_nil, List.length_cons, List.length_nil, List.replicate, Nat.reduceAdd, Nat.reduceSub, List.cons_append, List.nil_append, List.append_nil, List.set_cons_zero, List.set_cons_succ, List.getElem?_cons_zero, List.getElem?_cons_succ, dFld_eq, gIx0, gIx1, gIx2, gIx3, gIx4, lIx0, lIx1, lIx2, true_and, Nat.reduceLeDiff, gFDiv]
  refine ⟨fdiv_ok hb sb, fdiv_ok hb sb, _, _, _, _, hm, by simp, by simp, by simp, ?_⟩
  refine ⟨_, _, _, _, mup_same, by simp, by decide, by simp, ?_⟩
  simp only [mup_mup]
  exact h
theorem p_is_integer (ds : List D) (n : NS) (q : D → NS → Prop) (e : DY) (hl : ds.length = 1) (h : s_is_integer A ds n q e) : t_is_integer K A cs { nx := fun _ n' => q .non n', rt := q, ex := fun _ => e } (startD N_is_integer ds) n := by
  obtain ⟨x, rfl, hk, h⟩ := h
  unfold t_is_integer
  unfold kd at hk
  simp only [dSeq, dNext, dIfS, dTest, dOp, dVar, dC, dRet, dRetN, dGet, dAnd, dOr, dNot, dAndV, dOrV, dNotV, dIf, dNil, dCons, dTup, dLst, dCB, dM0, dM1, dDrop, dAsg, dgName, dPar, dCal, dChain, dRaise, dRaise2, dFor, diSeq, items, diRange1, diRange2, dLc, dYes, dgTup, dgCons, dgNil, dSl, dPart, dNoPart, dNeg, dPenC, dPenA, dPenL, dPutA, dPutL, dFld, dgFld, dNew, dMet, dLstM, dFrz, dApp, dgIx, dAug, startD, List.map_cons, List.map_nil, List.length_cons, List.length_nil, List.replicate, Nat.reduceAdd, Nat.reduceSub, List.cons_append, List.nil_append, List.append_nil, List.set_cons_zero, List.set_cons_succ, List.getElem?_cons_zero, List.getElem?_cons_succ, gIsi, isiD]
  cases x <;> simp only [kindD, Option.isSome_none, Bool.false_eq_true] at hk <;> simp only [kindD, kit_int_int, kit_int_bool, kit_int_str, kit_int_list, kit_int_tuple, kit_bool_int, kit_bool_bool, kit_bool_str, kit_bool_list, kit_bool_tuple, kit_str_int, kit_str_bool, kit_str_str, kit_str_list, kit_str_tuple, kit_non_int, kit_non_bool, kit_non_str, kit_non_list, kit_non_tuple, kit_list_int, kit_list_bool, kit_list_str, kit_list_list, kit_list_tuple, kit_tuple_int, kit_tuple_bool, kit_tuple_str, kit_tuple_list, kit_tuple_tuple, kit_dct_int, kit_dct_bool, Bool.not_true, Bool.not_false] <;> exact h
theorem p_need_integer (ds : List D) (n : NS) (q : D → NS → Prop) (e : DY) (hl : ds.length = 1) (h : s_need_integer A ds n q e) : t_need_integer K A cs { nx := fun _ n' => q .non n', rt := q, ex := fun _ => e } (startD N_need_integer ds) n := by
  obtain ⟨i, rfl, h⟩ := h
  unfold t_need_integer
  simp only [dSeq, dNext, dIfS, dTest, dOp, dVar, dC, dRet, dRetN, dGet, dAnd, dOr, dNot, dAndV, dOrV, dNotV, dIf, dNil, dCons, dTup, dLst, dCB, dM0, dM1, dDrop, dAsg, dgName, dPar, dCal, dChain, dRaise, dRaise2, dFor, diSeq, items, diRange1, diRange2, dLc, dYes, dgTup, dgCons, dgNil, dSl, dPart, dNoPart, dNeg, dPenC, dPenA, dPenL, dPutA, dPutL, dFld, dgFld, dNew, dMet, dLstM, dFrz, dApp, dgIx, dAug, startD, List.map_cons, List.map_nil, List.length_cons, List.length_nil, List.replicate, Nat.reduceAdd, Nat.reduceSub, List.cons_append, List.nil_append, List.append_nil, List.set_cons_zero, List.set_cons_succ, List.getElem?_cons_zero, List.getElem?_cons_succ]
  exact ⟨trivial, _, rfl, rfl, h⟩
theorem p_Ratio_init (ds : List D) (n : NS) (q : D → NS → Prop) (e : DY) (hl : ds.length = 3) (h : s_Ratio_init A ds n q e) : t_Ratio_init K A cs { nx := fun _ n' => q .non n', rt := q, ex := fun _ => e } (startD N_Ratio_init ds) n := by
  obtain ⟨a, dx, t, b, rfl, hm, c, s1, s2, h2⟩ := h
  unfold t_Ratio_init
  simp only [dSeq, dNext, dIfS, dTest, dOp, dVar, dC, dRet, dRetN, dGet, dAnd, dOr, dNot, dAndV, dOrV, dNotV, dIf, dNil, dCons, dTup, dLst, dCB, dM0, dM1, dDrop, dAsg, dgName, dPar, dCal, dChain, dRaise, dRaise2, dFor, diSeq, items, diRange1, diRange2, dLc, dYes, dgTup, dgCons, dgNil, dSl, dPart, dNoPart, dNeg, dPenC, dPenA, dPenL, dPutA, dPutL, dgFld, dNew, dMet, dLstM, dFrz, dApp, dgIx, dAug, startD, List.map_cons, List.map_nil, List.length_cons, List.length_nil, List.replicate, Nat.reduceAdd, Nat.reduceSub, List.cons_append, List.nil_append, List.append_nil, List.set_cons_zero, List.set_cons_succ, List.getElem?_cons_zero, List.getElem?_cons_succ, dFld_eq, gIx0, gIx1, gIx2, gIx3, gIx4, lIx0, lIx1, lIx2, true_and, Nat.reduceLeDiff]
  refine ⟨t, rfl, ?_⟩
  unfold u_Ratio_init_2
  simp only [dSeq, dNext, dIfS, dTest, dOp, dVar, dC, dRet, dRetN, dGet, dAnd, dOr, dNot, dAndV, dOrV, dNotV, dIf, dNil, dCons, dTup, dLst, dCB, dM0, dM1, dDrop, dAsg, dgName, dPar, dCal, dChain, dRaise, dRaise2, dFor, diSeq, items, diRange1, diRange2, dLc, dYes, dgTup, dgCons, dgNil, dSl, dPart, dNoPart, dNeg, dPenC, dPenA, dPenL, dPutA, dPutL, dgFld, dNew, dMet, dLstM, dFrz, dApp, dgIx, dAug, startD, List.map_cons, List.map_nil, List.length_cons, List.length_nil, List.replicate, Nat.reduceAdd, Nat.reduceSub, List.cons_append, List.nil_append, List.append_nil, List.set_cons_zero, List.set_cons_succ, List.getElem?_cons_zero, List.getElem?_cons_succ, dFld_eq, gIx0, gIx1, gIx2, gIx3, gIx4, lIx0, lIx1, lIx2, true_and, Nat.reduceLeDiff]
  refine ⟨b, rfl, ?_⟩
  unfold u_Ratio_init_3
  simp only [dSeq, dNext, dIfS, dTest, dOp, dVar, dC, dRet, dRetN, dGet, dAnd, dOr, dNot, dAndV, dOrV, dNotV, dIf, dNil, dCons, dTup, dLst, dCB, dM0, dM1, dDrop, dAsg, dgName, dPar, dCal, dChain, dRaise, dRaise2, dFor, diSeq, items, diRange1, diRange2, dLc, dYes, dgTup, dgCons, dgNil, dSl, dPart, dNoPart, dNeg, dPenC, dPenA, dPenL, dPutA, dPutL, dgFld, dNew, dMet, dLstM, dFrz, dApp, dgIx, dAug, startD, List.map_cons, List.map_nil, List.length_cons, List.length_nil, List.replicate, Nat.reduceAdd, Nat.reduceSub, List.cons_append, List.nil_append, List.append_nil, List.set_cons_zero, List.set_cons_succ, List.getElem?_cons_zero, List.getElem?_cons_succ, dFld_eq, gIx0, gIx1, gIx2, gIx3, gIx4, lIx0, lIx1, lIx2, true_and, Nat.reduceLeDiff, gEq, eqD, scEq, c, decide_false]
  unfold u_Ratio_init_4
  simp only [dSeq, dNext, dIfS, dTest, dOp, dVar, dC, dRet, dRetN, dGet, dAnd, dOr, dNot, dAndV, dOrV, dNotV, dIf, dNil, dCons, dTup, dLst, dCB, dM0, dM1, dDrop, dAsg, dgName, dPar, dCal, dChain, dRaise, dRaise2, dFor, diSeq, items, diRange1, diRange2, dLc, dYes, dgTup, dgCons, dgNil, dSl, dPart, dNoPart, dNeg, dPenC, dPenA, dPenL, dPutA, dPutL, dgFld, dNew, dMet, dLstM, dFrz, dApp, dgIx, dAug, startD, List.map_cons, List.map_nil, List.length_cons, List.length_nil, List.replicate, Nat.reduceAdd, Nat.reduceSub, List.cons_append, List.nil_append, List.append_nil, List.set_cons_zero, List.set_cons_succ, List.getElem?_cons_zero, List.getElem?_cons_succ, dFld_eq, gIx0, gIx1, gIx2, gIx3, gIx4, lIx0, lIx1, lIx2, true_and, Nat.reduceLeDiff]
  refine ⟨t, b, rfl, s1, s2, ?_⟩
  unfold u_Ratio_init_5
  simp only [dSeq, dNext, dIfS, dTest, dOp, dVar, dC, dRet, dRetN, dGet, dAnd, dOr, dNot, dAndV, dOrV, dNotV, dIf, dNil, dCons, dTup, dLst, dCB, dM0, dM1, dDrop, dAsg, dgName, dPar, dCal, dChain, dRaise, dRaise2, dFor, diSeq, items, diRange1, diRange2, dLc, dYes, dgTup, dgCons, dgNil, dSl, dPart, dNoPart, dNeg, dPenC, dPenA, dPenL, dPutA, dPutL, dgFld, dNew, dMet, dLstM, dFrz, dApp, dgIx, dAug, startD, List.map_cons, List.map_nil, List.length_cons, List.length_nil, List.replicate, Nat.reduceAdd, Nat.reduceSub, List.cons_append, List.nil_append, List.append_nil, List.set_cons_zero, List.set_cons_succ, List.getElem?_cons_zero, List.getElem?_cons_succ, dFld_eq, gIx0, gIx1, gIx2, gIx3, gIx4, lIx0, lIx1, lIx2, true_and, Nat.reduceLeDiff, gLt, gOrd]
  by_cases c2 : b < 0
  · simp only [c2, decide_true]
    rw [show -(Int.gcd t b : Int) = gS t b by unfold gS; rw [if_pos c2]]
    exact init6 hm c s2 h2
  · simp only [c2, decide_false]
    rw [show (Int.gcd t b : Int) = gS t b by unfold gS; rw [if_neg c2]]
    exact init6 hm c s2 h2
theorem new_Ratio : NewOk A.Ratio (s_Ratio_init A) (s_Ratio A) := by
  intro ds n q e h a dx ha
  obtain ⟨t, b, rfl, hb, s1, s2, h⟩ := h
  refine ⟨a, dx, t, b, rfl, mup_same, hb, s1, s2, rfl, _, _, _, mup_same, ?_⟩
  simp only [mup_mup, mup_back ha]
  exact h
theorem sm_small {i : Int} (h : -(2 ^ 40) < i ∧ i < 2 ^ 40) : sm 8000 i := sm_mono (sm_of2 (k := 40) h.2 h.1) (by decide)
end
end K43

set_option Elab.async false
set_option linter.all false
set_option maxRecDepth 100000
set_option maxHeartbeats 8000000
set_option autoImplicit false
/-! k43: values, grids. -/
namespace K43
open PySem PySem.Spec PyProof.Rows L2 DL
/-! ### comprehensions -/
theorem lc_ok {ι : Type} {g : DTG} {te : DTE} {vs : List Nat} {δ : DEnv} {n : NS} {a b : ι → D} {Q : List D → NS → Prop} : ∀ (is : List ι) (acc : List D), acc.length + is.length ≤ 100000 →
    (∀ i ∈ is, ∀ m (q : D → NS → Prop), Mle n.mu m → q (b i) ⟨n.at_, m⟩ → g (a i) (wipeD δ vs) ⟨n.at_, m⟩ fun δ2 n0 => te δ2 n0 q noX) → Q (acc ++ is.map b) n → dLcL g dYes te vs (is.map a) acc δ n Q
  | [], acc, _, _, h => by
    rw [List.map_nil, List.append_nil] at h
    exact h
  | i :: is, acc, hl, hs, h => by
    rw [List.length_cons] at hl
    rw [List.map_cons]
    refine ⟨by omega, fun m hm => hs i List.mem_cons_self m _ hm ⟨rfl, ?_⟩⟩
    refine lc_ok is (acc ++ [b i]) (by rw [List.length_append]; simp; omega) (fun j hj => hs j (List.mem_cons_of_mem _ hj)) ?_
    rw [List.map_cons] at h
    rw [List.append_assoc]
    exact h
theorem blsD_map {ι : Type} (is : List ι) (f : ι → Bool) : blsD (is.map fun i => D.bl (f i)) = some (is.map f) := by
  induction is with
  | nil => rfl
  | cons i is ih => rw [List.map_cons, blsD, ih]; rfl
theorem all_true {ι : Type} (is : List ι) : (is.map fun _ => true).all id = true := by simp
theorem lt_one {c d : Nat} : ([c] < [d]) ↔ c < d := by
  simp [List.cons_lt_cons_iff]
section
variable {P : Program} {K : PySem.W.Frag} {mg : Str → Option Value} {A : Ad} {cs : List Int}
theorem isi_ins {C D' : Addr} {ns : List Str} {xs : List D} {b : Bool} {k : Bool → Prop} (i : InsC K C) (hk : PySem.W.kitOne K (.ref C) (.ref D') = some b) (h : k b) : isiD K (.ins C ns xs) (.ref D') k := ⟨.ref C, .ref D', b, .inr ⟨_, _, _, rfl, rfl, i⟩, rfl, hk, h⟩
theorem p_need_items (T : Txt P K mg A) (ds : List D) (n : NS) (q : D → NS → Prop) (e : DY) (hl : ds.length = 1) (h : s_need_items A ds n q e) : t_need_items K A cs { nx := fun _ n' => q .non n', rt := q, ex := fun _ => e } (startD N_need_items ds) n := by
  obtain ⟨x, rfl, h⟩ := h
  unfold t_need_items
  simp only [dSeq, dNext, dIfS, dTest, dOp, dVar, dC, dRet, dRetN, dGet, dAnd, dOr, dNot, dAndV, dOrV, dNotV, dIf, dNil, dCons, dTup, dLst, dCB, dM0, dM1, dDrop, dAsg, dgName, dPar, dCal, dChain, dRaise, dRaise2, dFor, diSeq, items, diRange1, diRange2, dLc, dYes, dgTup, dgCons, dgNil, dSl, dPart, dNoPart, dNeg, dPenC, dPenA, dPenL, dPutA, dPutL, dgFld, dNew, dMet, dLstM, dFrz, dApp, dgIx, dAug, startD, List.map_cons, List.map_nil, List.length_cons, List.length_nil, List.replicate, Nat.reduceAdd, Nat.reduceSub, List.cons_append, List.nil_append, List.append_nil, List.set_cons_zero, List.set_cons_succ, List.getElem?_cons_zero, List.getElem?_cons_succ, dFld_eq, gIx0, gIx1, gIx2, gIx3, gIx4, lIx0, lIx1, lIx2, true_and, Nat.reduceLeDiff, gIsiT]
  rcases h with ⟨xs, rfl | rfl, h⟩ | ⟨rows, rfl, h⟩
  · exact ⟨.type "list", [.type "list", .type "tuple"], true, .inl ⟨_, rfl, rfl⟩, rfl, rfl, h⟩
  · exact ⟨.type "tuple", [.type "list", .type "tuple"], true, .inl ⟨_, rfl, rfl⟩, rfl, rfl, h⟩
  · exact ⟨.ref A.Grid, [.type "list", .type "tuple"], false, .inr ⟨_, _, _, rfl, rfl, T.i_Grid⟩, rfl, by simp only [PySem.W.kitAny, T.k_Grid_list, T.k_Grid_tuple], h⟩
theorem p_is_number (T : Txt P K mg A) (ds : List D) (n : NS) (q : D → NS → Prop) (e : DY) (hl : ds.length = 1) (h : s_is_number A ds n q e) : t_is_number K A cs { nx := fun _ n' => q .non n', rt := q, ex := fun _ => e } (startD N_is_number ds) n := by
  obtain ⟨x, rfl, h⟩ := h
  unfold t_is_number
  simp only [dSeq, dNext, dIfS, dTest, dOp, dVar, dC, dRet, dRetN, dGet, dAnd, dOr, dNot, dAndV, dOrV, dNotV, dIf, dNil, dCons, dTup, dLst, dCB, dM0, dM1, dDrop, dAsg, dgName, dPar, dCal, dChain, dRaise, dRaise2, dFor, diSeq, items, diRange1, diRange2, dLc, dYes, dgTup, dgCons, dgNil, dSl, dPart, dNoPart, dNeg, dPenC, dPenA, dPenL, dPutA, dPutL, dgFld, dNew, dMet, dLstM, dFrz, dApp, dgIx, dAug, startD, List.map_cons, List.map_nil, List.length_cons, List.length_nil, List.replicate, Nat.reduceAdd, Nat.reduceSub, List.cons_append, List.nil_append, List.append_nil, List.set_cons_zero, List.set_cons_succ, List.getElem?_cons_zero, List.getElem?_cons_succ, dFld_eq, gIx0, gIx1, gIx2, gIx3, gIx4, lIx0, lIx1, lIx2, true_and, Nat.reduceLeDiff, gIsiT]
  rcases h with ⟨t, b, rfl, h⟩ | ⟨l, rfl, h⟩
  · exact ⟨.ref A.Ratio, [.ref A.Ratio, .ref A.Strand, .ref A.Member], true, .inr ⟨_, _, _, rfl, rfl, T.i_Ratio⟩, rfl, by simp only [PySem.W.kitAny, T.k_Ratio_Ratio], h⟩
  · exact ⟨.type "str", [.ref A.Ratio, .ref A.Strand, .ref A.Member], false, .inl ⟨_, rfl, rfl⟩, rfl, by simp only [PySem.W.kitAny, T.k_str_Ratio, T.k_str_Strand, T.k_str_Member], h⟩
theorem p_is_text (ds : List D) (n : NS) (q : D → NS → Prop) (e : DY) (hl : ds.length = 1) (h : s_is_text A ds n q e) : t_is_text K A cs { nx := fun _ n' => q .non n', rt := q, ex := fun _ => e } (startD N_is_text ds) n := by
  obtain ⟨l, rfl, hx, h⟩ := h
  have hn := hx.ln
  unfold t_is_text
  simp only [dSeq, dNext, dIfS, dTest, dOp, dVar, dC, dRet, dRetN, dGet, dAnd, dOr, dNot, dAndV, dOrV, dNotV, dIf, dNil, dCons, dTup, dLst, dCB, dM0, dM1, dDrop, dAsg, dgName, dPar, dCal, dChain, dRaise, dRaise2, dFor, diSeq, items, diRange1, diRange2, dLc, dYes, dgTup, dgCons, dgNil, dSl, dPart, dNoPart, dNeg, dPenC, dPenA, dPenL, dPutA, dPutL, dgFld, dNew, dMet, dLstM, dFrz, dApp, dgIx, dAug, startD, List.map_cons, List.map_nil, List.length_cons, List.length_nil, List.replicate, Nat.reduceAdd, Nat.reduceSub, List.cons_append, List.nil_append, List.append_nil, List.set_cons_zero, List.set_cons_succ, List.getElem?_cons_zero, List.getElem?_cons_succ, dFld_eq, gIx0, gIx1, gIx2, gIx3, gIx4, lIx0, lIx1, lIx2, true_and, Nat.reduceLeDiff, gIsi, isiD, kindD, kit_int_int, kit_int_bool, kit_int_str, kit_int_list, kit_int_tuple, kit_bool_int, kit_bool_bool, kit_bool_str, kit_bool_list, kit_bool_tuple, kit_str_int, kit_str_bool, kit_str_str, kit_str_list, kit_str_tuple, kit_non_int, kit_non_bool, kit_non_str, kit_non_list, kit_non_tuple, kit_list_int, kit_list_bool, kit_list_str, kit_list_list, kit_list_tuple, kit_tuple_int, kit_tuple_bool, kit_tuple_str, kit_tuple_list, kit_tuple_tuple, Bool.not_true, gLen, gGt, gOrd]
  refine ⟨by omega, ?_⟩
  have c : ¬ ((l.length : Nat) : Int) > 1000 := by omega
  simp only [c, decide_false, items]
  refine lc_ok (b := fun _ => .bl true) l [] (by simp; omega) (fun c hc m q' _ h' => ?_) ?_
  · have ok := hx.ok c hc
    simp only [wipeD, dSeq, dNext, dIfS, dTest, dOp, dVar, dC, dRet, dRetN, dGet, dAnd, dOr, dNot, dAndV, dOrV, dNotV, dIf, dNil, dCons, dTup, dLst, dCB, dM0, dM1, dDrop, dAsg, dgName, dPar, dCal, dChain, dRaise, dRaise2, dFor, diSeq, items, diRange1, diRange2, dLc, dYes, dgTup, dgCons, dgNil, dSl, dPart, dNoPart, dNeg, dPenC, dPenA, dPenL, dPutA, dPutL, dgFld, dNew, dMet, dLstM, dFrz, dApp, dgIx, dAug, startD, List.map_cons, List.map_nil, List.length_cons, List.length_nil, List.replicate, Nat.reduceAdd, Nat.reduceSub, List.cons_append, List.nil_append, List.append_nil, List.set_cons_zero, List.set_cons_succ, List.getElem?_cons_zero, List.getElem?_cons_succ, dFld_eq, gIx0, gIx1, gIx2, gIx3, gIx4, lIx0, lIx1, lIx2, true_and, Nat.reduceLeDiff, gLe, gOrd]
    have e1 : ¬ ([c] : List Nat) < [32] := by rw [lt_one]; omega
    have e2 : ¬ ([126] : List Nat) < [c] := by rw [lt_one]; omega
    simp only [e1, e2, decide_false, Bool.not_false]
    exact h'
  · rw [List.nil_append]
    simp only [gAll, blsD_map (f := fun _ => true), all_true]
    exact h
theorem p_is_value (T : Txt P K mg A) (ds : List D) (n : NS) (q : D → NS → Prop) (e : DY) (hl : ds.length = 1) (h : s_is_value A ds n q e) : t_is_value K A cs { nx := fun _ n' => q .non n', rt := q, ex := fun _ => e } (startD N_is_value ds) n := by
  obtain ⟨x, rfl, hv, h⟩ := h
  unfold t_is_value
  simp only [dSeq, dNext, dIfS, dTest, dOp, dVar, dC, dRet, dRetN, dGet, dAnd, dOr, dNot, dAndV, dOrV, dNotV, dIf, dNil, dCons, dTup, dLst, dCB, dM0, dM1, dDrop, dAsg, dgName, dPar, dCal, dChain, dRaise, dRaise2, dFor, diSeq, items, diRange1, diRange2, dLc, dYes, dgTup, dgCons, dgNil, dSl, dPart, dNoPart, dNeg, dPenC, dPenA, dPenL, dPutA, dPutL, dgFld, dNew, dMet, dLstM, dFrz, dApp, dgIx, dAug, startD, List.map_cons, List.map_nil, List.length_cons, List.length_nil, List.replicate, Nat.reduceAdd, Nat.reduceSub, List.cons_append, List.nil_append, List.append_nil, List.set_cons_zero, List.set_cons_succ, List.getElem?_cons_zero, List.getElem?_cons_succ, dFld_eq, gIx0, gIx1, gIx2, gIx3, gIx4, lIx0, lIx1, lIx2, true_and, Nat.reduceLeDiff, gIsN, gIsiT]
  cases hv with
  | non => exact h
  | bl b => exact ⟨.type "bool", [.type "bool", .ref A.Fault], true, .inl ⟨_, rfl, rfl⟩, rfl, rfl, h⟩
  | str l hx =>
    refine ⟨.type "str", [.type "bool", .ref A.Fault], false, .inl ⟨_, rfl, rfl⟩, rfl, ?_, ?_⟩
    · have e1 : PySem.W.kitOne K (.type "str") (.type "bool") = some false := rfl
      simp only [PySem.W.kitAny, e1, T.k_str_Fault]
    · exact ⟨_, rfl, .inr ⟨l, rfl, l, rfl, hx, h⟩⟩
  | rat t b =>
    refine ⟨.ref A.Ratio, [.type "bool", .ref A.Fault], false, .inr ⟨_, _, _, rfl, rfl, T.i_Ratio⟩, rfl, ?_, ?_⟩
    · simp only [PySem.W.kitAny, T.k_Ratio_bool, T.k_Ratio_Fault]
    · exact ⟨_, rfl, .inl ⟨t, b, rfl, h⟩⟩
  | flt l =>
    refine ⟨.ref A.Fault, [.type "bool", .ref A.Fault], true, .inr ⟨_, _, _, rfl, rfl, T.i_Fault⟩, rfl, ?_, h⟩
    simp only [PySem.W.kitAny, T.k_Fault_bool, T.k_Fault_Fault]
theorem p_is_row (ds : List D) (n : NS) (q : D → NS → Prop) (e : DY) (hl : ds.length = 1) (h : s_is_row A ds n q e) : t_is_row K A cs { nx := fun _ n' => q .non n', rt := q, ex := fun _ => e } (startD N_is_row ds) n := by
  obtain ⟨r, rfl, h0, h1, hv, h⟩ := h
  unfold t_is_row
  simp only [dSeq, dNext, dIfS, dTest, dOp, dVar, dC, dRet, dRetN, dGet, dAnd, dOr, dNot, dAndV, dOrV, dNotV, dIf, dNil, dCons, dTup, dLst, dCB, dM0, dM1, dDrop, dAsg, dgName, dPar, dCal, dChain, dRaise, dRaise2, dFor, diSeq, items, diRange1, diRange2, dLc, dYes, dgTup, dgCons, dgNil, dSl, dPart, dNoPart, dNeg, dPenC, dPenA, dPenL, dPutA, dPutL, dgFld, dNew, dMet, dLstM, dFrz, dApp, dgIx, dAug, startD, List.map_cons, List.map_nil, List.length_cons, List.length_nil, List.replicate, Nat.reduceAdd, Nat.reduceSub, List.cons_append, List.nil_append, List.append_nil, List.set_cons_zero, List.set_cons_succ, List.getElem?_cons_zero, List.getElem?_cons_succ, dFld_eq, gIx0, gIx1, gIx2, gIx3, gIx4, lIx0, lIx1, lIx2, true_and, Nat.reduceLeDiff, gIsiT]
  refine ⟨.type "tuple", [.type "list", .type "tuple"], true, .inl ⟨_, rfl, rfl⟩, rfl, rfl, ?_⟩
  have c : ¬ ((r.length : Nat) : Int) = 0 := by omega
  simp only [Bool.not_true, gLen, gEq, eqD, scEq, c, decide_false, items]
  rw [← List.map_id r]
  refine lc_ok (b := fun _ => .bl true) r [] (by simp; omega) (fun v hm m q' _ h' => ?_) ?_
  · simp only [wipeD, dSeq, dNext, dIfS, dTest, dOp, dVar, dC, dRet, dRetN, dGet, dAnd, dOr, dNot, dAndV, dOrV, dNotV, dIf, dNil, dCons, dTup, dLst, dCB, dM0, dM1, dDrop, dAsg, dgName, dPar, dCal, dChain, dRaise, dRaise2, dFor, diSeq, items, diRange1, diRange2, dLc, dYes, dgTup, dgCons, dgNil, dSl, dPart, dNoPart, dNeg, dPenC, dPenA, dPenL, dPutA, dPutL, dgFld, dNew, dMet, dLstM, dFrz, dApp, dgIx, dAug, startD, List.map_cons, List.map_nil, List.length_cons, List.length_nil, List.replicate, Nat.reduceAdd, Nat.reduceSub, List.cons_append, List.nil_append, List.append_nil, List.set_cons_zero, List.set_cons_succ, List.getElem?_cons_zero, List.getElem?_cons_succ, dFld_eq, gIx0, gIx1, gIx2, gIx3, gIx4, lIx0, lIx1, lIx2, true_and, Nat.reduceLeDiff, id]
    exact ⟨v, rfl, hv v hm, h'⟩
  · rw [List.nil_append]
    simp only [gAll, blsD_map (f := fun _ => true), all_true]
    exact h
theorem rows1 {x : Option D} {k : DEnds} {n : NS} (H : ∀ z, k.nx [x, z] n) : ∀ (rows : List (List D)) (z : Option D), (∀ r ∈ rows, 0 < r.length ∧ r.length ≤ 10000 ∧ ∀ v ∈ r, VAL A v) → dForL (dgName 1) (l_need_rows_4 K A cs) (tRows rows) k [x, z] n
  | [], z, _ => H z
  | r :: rows, z, h => by
    show dForL (dgName 1) (l_need_rows_4 K A cs) (.tup r :: tRows rows) k [x, z] n
    unfold dForL l_need_rows_4
    simp only [dSeq, dNext, dIfS, dTest, dOp, dVar, dC, dRet, dRetN, dGet, dAnd, dOr, dNot, dAndV, dOrV, dNotV, dIf, dNil, dCons, dTup, dLst, dCB, dM0, dM1, dDrop, dAsg, dgName, dPar, dCal, dChain, dRaise, dRaise2, dFor, diSeq, items, diRange1, diRange2, dLc, dYes, dgTup, dgCons, dgNil, dSl, dPart, dNoPart, dNeg, dPenC, dPenA, dPenL, dPutA, dPutL, dgFld, dNew, dMet, dLstM, dFrz, dApp, dgIx, dAug, startD, List.map_cons, List.map_nil, List.length_cons, List.length_nil, List.replicate, Nat.reduceAdd, Nat.reduceSub, List.cons_append, List.nil_append, List.append_nil, List.set_cons_zero, List.set_cons_succ, List.getElem?_cons_zero, List.getElem?_cons_succ, dFld_eq, gIx0, gIx1, gIx2, gIx3, gIx4, lIx0, lIx1, lIx2, true_and, Nat.reduceLeDiff]
    obtain ⟨h0, h1, hv⟩ := h r List.mem_cons_self
    exact ⟨r, rfl, h0, h1, hv, rows1 H rows _ fun r' hr => h r' (List.mem_cons_of_mem _ hr)⟩
theorem ix0 {rows : List (List D)} {n : NS} {q : D → NS → Prop} (f : List D → D) (h0 : 0 < rows.length) : gIx (.lst (rows.map f)) (.int 0) n q = q (f (rows.headD [])) n := by
  cases rows with
  | nil => simp at h0
  | cons r rows => exact lIx0
theorem rows2 {rows0 : List (List D)} {k : DEnds} {n : NS} (h0 : 0 < rows0.length) (H : ∀ z, k.nx [some (.lst (tRows rows0)), z] n) : ∀ (rows : List (List D)) (z : Option D), (∀ r ∈ rows, r.length = wdt rows0) → dForL (dgName 1) (l_need_rows_1 K A cs) (tRows rows) k [some (.lst (tRows rows0)), z] n
  | [], z, _ => H z
  | r :: rows, z, h => by
    show dForL (dgName 1) (l_need_rows_1 K A cs) (.tup r :: tRows rows) k [some (.lst (tRows rows0)), z] n
    have e1 := h r List.mem_cons_self
    unfold dForL l_need_rows_1
    simp only [dSeq, dNext, dIfS, dTest, dOp, dVar, dC, dRet, dRetN, dGet, dAnd, dOr, dNot, dAndV, dOrV, dNotV, dIf, dNil, dCons, dTup, dLst, dCB, dM0, dM1, dDrop, dAsg, dgName, dPar, dCal, dChain, dRaise, dRaise2, dFor, diSeq, items, diRange1, diRange2, dLc, dYes, dgTup, dgCons, dgNil, dSl, dPart, dNoPart, dNeg, dPenC, dPenA, dPenL, dPutA, dPutL, dgFld, dNew, dMet, dLstM, dFrz, dApp, dgIx, dAug, startD, List.map_cons, List.map_nil, List.length_cons, List.length_nil, List.replicate, Nat.reduceAdd, Nat.reduceSub, List.cons_append, List.nil_append, List.append_nil, List.set_cons_zero, List.set_cons_succ, List.getElem?_cons_zero, List.getElem?_cons_succ, dFld_eq, gIx0, gIx1, gIx2, gIx3, gIx4, lIx0, lIx1, lIx2, true_and, Nat.reduceLeDiff, gLen, ix0 D.tup h0, gNe, eqD, scEq]
    rw [show (rows0.headD []).length = wdt rows0 from rfl, e1, decide_eq_true rfl]
    exact rows2 h0 H rows _ fun r' hr => h r' (List.mem_cons_of_mem _ hr)
theorem GR.row {rows : List (List D)} (h : GR A rows) {r : List D} (hr : r ∈ rows) : 0 < r.length ∧ r.length ≤ 10000 ∧ ∀ v ∈ r, VAL A v := by
  have h1 := h.wd r hr
  have h2 := h.wp
  have h3 := h.sz
  have h4 := Nat.le_mul_of_pos_left (wdt rows) h.ne
  exact ⟨by omega, by omega, h.ok r hr⟩
theorem GR.hl {rows : List (List D)} (h : GR A rows) : rows.length ≤ 10000 := Nat.le_trans (Nat.le_mul_of_pos_right _ h.wp) h.sz
theorem GR.wl {rows : List (List D)} (h : GR A rows) : wdt rows ≤ 10000 := Nat.le_trans (Nat.le_mul_of_pos_left _ h.ne) h.sz
theorem p_need_rows (ds : List D) (n : NS) (q : D → NS → Prop) (e : DY) (hl : ds.length = 1) (h : s_need_rows A ds n q e) : t_need_rows K A cs { nx := fun _ n' => q .non n', rt := q, ex := fun _ => e } (startD N_need_rows ds) n := by
  obtain ⟨rows, rfl, hg, h⟩ := h
  have h1 := hg.hl
  have h2 := hg.wl
  have h3 := hg.sz
  unfold t_need_rows
  simp only [dSeq, dNext, dIfS, dTest, dOp, dVar, dC, dRet, dRetN, dGet, dAnd, dOr, dNot, dAndV, dOrV, dNotV, dIf, dNil, dCons, dTup, dLst, dCB, dM0, dM1, dDrop, dAsg, dgName, dPar, dCal, dChain, dRaise, dRaise2, dFor, diSeq, items, diRange1, diRange2, dLc, dYes, dgTup, dgCons, dgNil, dSl, dPart, dNoPart, dNeg, dPenC, dPenA, dPenL, dPutA, dPutL, dgFld, dNew, dMet, dLstM, dFrz, dApp, dgIx, dAug, startD, List.map_cons, List.map_nil, List.length_cons, List.length_nil, List.replicate, Nat.reduceAdd, Nat.reduceSub, List.cons_append, List.nil_append, List.append_nil, List.set_cons_zero, List.set_cons_succ, List.getElem?_cons_zero, List.getElem?_cons_succ, dFld_eq, gIx0, gIx1, gIx2, gIx3, gIx4, lIx0, lIx1, lIx2, true_and, Nat.reduceLeDiff]
  refine ⟨_, rfl, .inl ⟨_, .inl rfl, ?_⟩⟩
  unfold u_need_rows_2
  simp only [dSeq, dNext, dIfS, dTest, dOp, dVar, dC, dRet, dRetN, dGet, dAnd, dOr, dNot, dAndV, dOrV, dNotV, dIf, dNil, dCons, dTup, dLst, dCB, dM0, dM1, dDrop, dAsg, dgName, dPar, dCal, dChain, dRaise, dRaise2, dFor, diSeq, items, diRange1, diRange2, dLc, dYes, dgTup, dgCons, dgNil, dSl, dPart, dNoPart, dNeg, dPenC, dPenA, dPenL, dPutA, dPutL, dgFld, dNew, dMet, dLstM, dFrz, dApp, dgIx, dAug, startD, List.map_cons, List.map_nil, List.length_cons, List.length_nil, List.replicate, Nat.reduceAdd, Nat.reduceSub, List.cons_append, List.nil_append, List.append_nil, List.set_cons_zero, List.set_cons_succ, List.getElem?_cons_zero, List.getElem?_cons_succ, dFld_eq, gIx0, gIx1, gIx2, gIx3, gIx4, lIx0, lIx1, lIx2, true_and, Nat.reduceLeDiff, items]
  refine rows1 (fun z => ?_) rows none fun r hr => hg.row hr
  simp only
  unfold u_need_rows_3
  simp only [dSeq, dNext, dIfS, dTest, dOp, dVar, dC, dRet, dRetN, dGet, dAnd, dOr, dNot, dAndV, dOrV, dNotV, dIf, dNil, dCons, dTup, dLst, dCB, dM0, dM1, dDrop, dAsg, dgName, dPar, dCal, dChain, dRaise, dRaise2, dFor, diSeq, items, diRange1, diRange2, dLc, dYes, dgTup, dgCons, dgNil, dSl, dPart, dNoPart, dNeg, dPenC, dPenA, dPenL, dPutA, dPutL, dgFld, dNew, dMet, dLstM, dFrz, dApp, dgIx, dAug, startD, List.map_cons, List.map_nil, List.length_cons, List.length_nil, List.replicate, Nat.reduceAdd, Nat.reduceSub, List.cons_append, List.nil_append, List.append_nil, List.set_cons_zero, List.set_cons_succ, List.getElem?_cons_zero, List.getElem?_cons_succ, dFld_eq, gIx0, gIx1, gIx2, gIx3, gIx4, lIx0, lIx1, lIx2, true_and, Nat.reduceLeDiff, gLen, List.length_map, gEq, eqD, scEq]
  have c : ¬ ((rows.length : Nat) : Int) = 0 := by have := hg.ne; omega
  simp only [c, decide_false, ix0 D.tup hg.ne, gLen, gMul, gI, gGt, gOrd]
  rw [show (rows.headD []).length = wdt rows from rfl]
  have c2 : ¬ ((rows.length : Nat) : Int) * ((wdt rows : Nat) : Int) > 10000 := by
    have : ((rows.length * wdt rows : Nat) : Int) ≤ 10000 := by omega
    rw [Int.natCast_mul] at this
    omega
  simp only [c2, decide_false]
  refine ⟨mul_l (by omega), ?_⟩
  unfold u_need_rows_4
  simp only [dSeq, dNext, dIfS, dTest, dOp, dVar, dC, dRet, dRetN, dGet, dAnd, dOr, dNot, dAndV, dOrV, dNotV, dIf, dNil, dCons, dTup, dLst, dCB, dM0, dM1, dDrop, dAsg, dgName, dPar, dCal, dChain, dRaise, dRaise2, dFor, diSeq, items, diRange1, diRange2, dLc, dYes, dgTup, dgCons, dgNil, dSl, dPart, dNoPart, dNeg, dPenC, dPenA, dPenL, dPutA, dPutL, dgFld, dNew, dMet, dLstM, dFrz, dApp, dgIx, dAug, startD, List.map_cons, List.map_nil, List.length_cons, List.length_nil, List.replicate, Nat.reduceAdd, Nat.reduceSub, List.cons_append, List.nil_append, List.append_nil, List.set_cons_zero, List.set_cons_succ, List.getElem?_cons_zero, List.getElem?_cons_succ, dFld_eq, gIx0, gIx1, gIx2, gIx3, gIx4, lIx0, lIx1, lIx2, true_and, Nat.reduceLeDiff, items]
  exact rows2 hg.ne (fun z => h) rows z hg.wd
theorem p_is_corner (ds : List D) (n : NS) (q : D → NS → Prop) (e : DY) (hl : ds.length = 1) (h : s_is_corner A ds n q e) : t_is_corner K A cs { nx := fun _ n' => q .non n', rt := q, ex := fun _ => e } (startD N_is_corner ds) n := h.elim
end
end K43

set_option Elab.async false
set_option linter.all false
set_option maxRecDepth 100000
set_option maxHeartbeats 8000000
set_option autoImplicit false
/-! k43: grids made, compared. -/
namespace K43
open PySem PySem.Spec PyProof.Rows L2 DL
section
variable {P : Program} {K : PySem.W.Frag} {mg : Str → Option Value} {A : Ad} {cs : List Int}
theorem p_Grid_init (ds : List D) (n : NS) (q : D → NS → Prop) (e : DY) (hl : ds.length = 3) (h : s_Grid_init A ds n q e) : t_Grid_init K A cs { nx := fun _ n' => q .non n', rt := q, ex := fun _ => e } (startD N_Grid_init ds) n := by
  obtain ⟨a, dx, rows, rfl, hm, hg, h⟩ := h
  have h1 := hg.hl
  unfold t_Grid_init
  simp only [dSeq, dNext, dIfS, dTest, dOp, dVar, dC, dRet, dRetN, dGet, dAnd, dOr, dNot, dAndV, dOrV, dNotV, dIf, dNil, dCons, dTup, dLst, dCB, dM0, dM1, dDrop, dAsg, dgName, dPar, dCal, dChain, dRaise, dRaise2, dFor, diSeq, items, diRange1, diRange2, dLc, dYes, dgTup, dgCons, dgNil, dSl, dPart, dNoPart, dNeg, dPenC, dPenA, dPenL, dPutA, dPutL, dgFld, dNew, dMet, dLstM, dFrz, dApp, dgIx, dAug, startD, List.map_cons, List.map_nil, List.length_cons, List.length_nil, List.replicate, Nat.reduceAdd, Nat.reduceSub, List.cons_append, List.nil_append, List.append_nil, List.set_cons_zero, List.set_cons_succ, List.getElem?_cons_zero, List.getElem?_cons_succ, dFld_eq, gIx0, gIx1, gIx2, gIx3, gIx4, lIx0, lIx1, lIx2, true_and, Nat.reduceLeDiff]
  refine ⟨rows, rfl, hg, ?_⟩
  unfold u_Grid_init_2
  simp only [dSeq, dNext, dIfS, dTest, dOp, dVar, dC, dRet, dRetN, dGet, dAnd, dOr, dNot, dAndV, dOrV, dNotV, dIf, dNil, dCons, dTup, dLst, dCB, dM0, dM1, dDrop, dAsg, dgName, dPar, dCal, dChain, dRaise, dRaise2, dFor, diSeq, items, diRange1, diRange2, dLc, dYes, dgTup, dgCons, dgNil, dSl, dPart, dNoPart, dNeg, dPenC, dPenA, dPenL, dPutA, dPutL, dgFld, dNew, dMet, dLstM, dFrz, dApp, dgIx, dAug, startD, List.map_cons, List.map_nil, List.length_cons, List.length_nil, List.replicate, Nat.reduceAdd, Nat.reduceSub, List.cons_append, List.nil_append, List.append_nil, List.set_cons_zero, List.set_cons_succ, List.getElem?_cons_zero, List.getElem?_cons_succ, dFld_eq, gIx0, gIx1, gIx2, gIx3, gIx4, lIx0, lIx1, lIx2, true_and, Nat.reduceLeDiff, gNotN, DL.isNon, Bool.not_true]
  unfold u_Grid_init_3
  simp only [dSeq, dNext, dIfS, dTest, dOp, dVar, dC, dRet, dRetN, dGet, dAnd, dOr, dNot, dAndV, dOrV, dNotV, dIf, dNil, dCons, dTup, dLst, dCB, dM0, dM1, dDrop, dAsg, dgName, dPar, dCal, dChain, dRaise, dRaise2, dFor, diSeq, items, diRange1, diRange2, dLc, dYes, dgTup, dgCons, dgNil, dSl, dPart, dNoPart, dNeg, dPenC, dPenA, dPenL, dPutA, dPutL, dgFld, dNew, dMet, dLstM, dFrz, dApp, dgIx, dAug, startD, List.map_cons, List.map_nil, List.length_cons, List.length_nil, List.replicate, Nat.reduceAdd, Nat.reduceSub, List.cons_append, List.nil_append, List.append_nil, List.set_cons_zero, List.set_cons_succ, List.getElem?_cons_zero, List.getElem?_cons_succ, dFld_eq, gIx0, gIx1, gIx2, gIx3, gIx4, lIx0, lIx1, lIx2, true_and, Nat.reduceLeDiff, items]
  refine lc_ok (b := D.tup) rows [] (by simp; omega) (fun r hr m q' _ h' => ?_) ?_
  · simp only [wipeD, dSeq, dNext, dIfS, dTest, dOp, dVar, dC, dRet, dRetN, dGet, dAnd, dOr, dNot, dAndV, dOrV, dNotV, dIf, dNil, dCons, dTup, dLst, dCB, dM0, dM1, dDrop, dAsg, dgName, dPar, dCal, dChain, dRaise, dRaise2, dFor, diSeq, items, diRange1, diRange2, dLc, dYes, dgTup, dgCons, dgNil, dSl, dPart, dNoPart, dNeg, dPenC, dPenA, dPenL, dPutA, dPutL, dgFld, dNew, dMet, dLstM, dFrz, dApp, dgIx, dAug, startD, List.map_cons, List.map_nil, List.length_cons, List.length_nil, List.replicate, Nat.reduceAdd, Nat.reduceSub, List.cons_append, List.nil_append, List.append_nil, List.set_cons_zero, List.set_cons_succ, List.getElem?_cons_zero, List.getElem?_cons_succ, dFld_eq, gIx0, gIx1, gIx2, gIx3, gIx4, lIx0, lIx1, lIx2, true_and, Nat.reduceLeDiff, gTuple]
    exact h'
  · simp only [List.nil_append, gTuple]
    refine ⟨_, _, _, _, hm, by simp, by simp, by simp, ?_⟩
    unfold u_Grid_init_4
    simp only [dSeq, dNext, dIfS, dTest, dOp, dVar, dC, dRet, dRetN, dGet, dAnd, dOr, dNot, dAndV, dOrV, dNotV, dIf, dNil, dCons, dTup, dLst, dCB, dM0, dM1, dDrop, dAsg, dgName, dPar, dCal, dChain, dRaise, dRaise2, dFor, diSeq, items, diRange1, diRange2, dLc, dYes, dgTup, dgCons, dgNil, dSl, dPart, dNoPart, dNeg, dPenC, dPenA, dPenL, dPutA, dPutL, dgFld, dNew, dMet, dLstM, dFrz, dApp, dgIx, dAug, startD, List.map_cons, List.map_nil, List.length_cons, List.length_nil, List.replicate, Nat.reduceAdd, Nat.reduceSub, List.cons_append, List.nil_append, List.append_nil, List.set_cons_zero, List.set_cons_succ, List.getElem?_cons_zero, List.getElem?_cons_succ, dFld_eq, gIx0, gIx1, gIx2, gIx3, gIx4, lIx0, lIx1, lIx2, true_and, Nat.reduceLeDiff, gLen, ix0 D.tup hg.ne, List.length_map]
    refine ⟨_, _, _, _, mup_same, by simp, by decide, by simp, _, _, _, _, mup_same, by simp, by decide, by simp, ?_⟩
    unfold u_Grid_init_5
    simp only [dSeq, dNext, dIfS, dTest, dOp, dVar, dC, dRet, dRetN, dGet, dAnd, dOr, dNot, dAndV, dOrV, dNotV, dIf, dNil, dCons, dTup, dLst, dCB, dM0, dM1, dDrop, dAsg, dgName, dPar, dCal, dChain, dRaise, dRaise2, dFor, diSeq, items, diRange1, diRange2, dLc, dYes, dgTup, dgCons, dgNil, dSl, dPart, dNoPart, dNeg, dPenC, dPenA, dPenL, dPutA, dPutL, dgFld, dNew, dMet, dLstM, dFrz, dApp, dgIx, dAug, startD, List.map_cons, List.map_nil, List.length_cons, List.length_nil, List.replicate, Nat.reduceAdd, Nat.reduceSub, List.cons_append, List.nil_append, List.append_nil, List.set_cons_zero, List.set_cons_succ, List.getElem?_cons_zero, List.getElem?_cons_succ, dFld_eq, gIx0, gIx1, gIx2, gIx3, gIx4, lIx0, lIx1, lIx2, true_and, Nat.reduceLeDiff]
    refine ⟨_, _, _, _, mup_same, by simp, by decide, by simp, ?_⟩
    unfold u_Grid_init_6
    simp only [dSeq, dNext, dIfS, dTest, dOp, dVar, dC, dRet, dRetN, dGet, dAnd, dOr, dNot, dAndV, dOrV, dNotV, dIf, dNil, dCons, dTup, dLst, dCB, dM0, dM1, dDrop, dAsg, dgName, dPar, dCal, dChain, dRaise, dRaise2, dFor, diSeq, items, diRange1, diRange2, dLc, dYes, dgTup, dgCons, dgNil, dSl, dPart, dNoPart, dNeg, dPenC, dPenA, dPenL, dPutA, dPutL, dgFld, dNew, dMet, dLstM, dFrz, dApp, dgIx, dAug, startD, List.map_cons, List.map_nil, List.length_cons, List.length_nil, List.replicate, Nat.reduceAdd, Nat.reduceSub, List.cons_append, List.nil_append, List.append_nil, List.set_cons_zero, List.set_cons_succ, List.getElem?_cons_zero, List.getElem?_cons_succ, dFld_eq, gIx0, gIx1, gIx2, gIx3, gIx4, lIx0, lIx1, lIx2, true_and, Nat.reduceLeDiff, gNotN, DL.isNon, Bool.not_true, mup_mup]
    exact h
theorem new_Grid : NewOk A.Grid (s_Grid_init A) (s_Grid A) := by
  intro ds n q e h a dx ha
  obtain ⟨rows, rfl, hg, h⟩ := h
  refine ⟨a, dx, rows, rfl, mup_same, hg, rfl, _, _, _, mup_same, ?_⟩
  simp only [mup_mup, mup_back ha]
  exact h
abbrev FK : List D := [.str [68, 73, 86], .str [86, 65, 76, 85, 69], .str [82, 69, 70], .str [78, 65, 77, 69], .str [78, 85, 77], .str [78, 65], .str [83, 80, 73, 76, 76], .str [82, 73, 78, 71]]
theorem fk_na : (FK.any fun y => eqF y (.str [78, 65])) = true := by decide +kernel
theorem fk_div : (FK.any fun y => eqF y (.str [68, 73, 86])) = true := by decide +kernel
theorem fk_flat : FK.all DL.flatD = true := rfl
theorem p_Fault_init (ds : List D) (n : NS) (q : D → NS → Prop) (e : DY) (hl : ds.length = 2) (h : s_Fault_init A ds n q e) : t_Fault_init K A cs { nx := fun _ n' => q .non n', rt := q, ex := fun _ => e } (startD N_Fault_init ds) n := by
  obtain ⟨a, dx, l, rfl, hm, hl', h⟩ := h
  unfold t_Fault_init
  simp only [dSeq, dNext, dIfS, dTest, dOp, dVar, dC, dRet, dRetN, dGet, dAnd, dOr, dNot, dAndV, dOrV, dNotV, dIf, dNil, dCons, dTup, dLst, dCB, dM0, dM1, dDrop, dAsg, dgName, dPar, dCal, dChain, dRaise, dRaise2, dFor, diSeq, items, diRange1, diRange2, dLc, dYes, dgTup, dgCons, dgNil, dSl, dPart, dNoPart, dNeg, dPenC, dPenA, dPenL, dPutA, dPutL, dgFld, dNew, dMet, dLstM, dFrz, dApp, dgIx, dAug, startD, List.map_cons, List.map_nil, List.length_cons, List.length_nil, List.replicate, Nat.reduceAdd, Nat.reduceSub, List.cons_append, List.nil_append, List.append_nil, List.set_cons_zero, List.set_cons_succ, List.getElem?_cons_zero, List.getElem?_cons_succ, dFld_eq, gIx0, gIx1, gIx2, gIx3, gIx4, lIx0, lIx1, lIx2, true_and, Nat.reduceLeDiff, gIsi, isiD, kindD, kit_int_int, kit_int_bool, kit_int_str, kit_int_list, kit_int_tuple, kit_bool_int, kit_bool_bool, kit_bool_str, kit_bool_list, kit_bool_tuple, kit_str_int, kit_str_bool, kit_str_str, kit_str_list, kit_str_tuple, kit_non_int, kit_non_bool, kit_non_str, kit_non_list, kit_non_tuple, kit_list_int, kit_list_bool, kit_list_str, kit_list_list, kit_list_tuple, kit_tuple_int, kit_tuple_bool, kit_tuple_str, kit_tuple_list, kit_tuple_tuple, Bool.not_true]
  rcases hl' with rfl | rfl
  · refine ⟨rfl, fk_flat, ?_⟩
    rw [fk_na]
    exact ⟨_, _, _, _, hm, by simp, by simp, by simp, h⟩
  · refine ⟨rfl, fk_flat, ?_⟩
    rw [fk_div]
    exact ⟨_, _, _, _, hm, by simp, by simp, by simp, h⟩
theorem new_Fault : NewOk A.Fault (s_Fault_init A) (s_Fault A) := by
  intro ds n q e h a dx ha
  obtain ⟨l, rfl, hl, h⟩ := h
  refine ⟨a, dx, l, rfl, mup_same, hl, rfl, _, _, _, mup_same, ?_⟩
  simp only [mup_mup, mup_back ha]
  exact h
theorem f_kind {n : NS} {q : D → NS → Prop} {l : List Nat} : gFld [A.Fault] "kind" (fltD A l) n q = q (.str l) n := gFld_ins (by simp) rfl
theorem f_rows {n : NS} {q : D → NS → Prop} {rows : List (List D)} : gFld [A.Grid] "rows" (gridD A rows) n q = q (.tup (tRows rows)) n := gFld_ins (by simp) rfl
theorem f_height {n : NS} {q : D → NS → Prop} {rows : List (List D)} : gFld [A.Grid] "height" (gridD A rows) n q = q (.int (rows.length : Nat)) n := gFld_ins (by simp) rfl
theorem f_width {n : NS} {q : D → NS → Prop} {rows : List (List D)} : gFld [A.Grid] "width" (gridD A rows) n q = q (.int (wdt rows : Nat)) n := gFld_ins (by simp) rfl
theorem isi_g (T : Txt P K mg A) {rows : List (List D)} {k : Bool → Prop} (h : k true) : isiD K (gridD A rows) (.ref A.Grid) k := isi_ins T.i_Grid T.k_Grid_Grid h
theorem p_Ratio_eq (T : Txt P K mg A) (ds : List D) (n : NS) (q : D → NS → Prop) (e : DY) (hl : ds.length = 2) (h : s_Ratio_eq A ds n q e) : t_Ratio_eq K A cs { nx := fun _ n' => q .non n', rt := q, ex := fun _ => e } (startD N_Ratio_eq ds) n := by
  obtain ⟨t, b, rfl, h⟩ := h
  unfold t_Ratio_eq
  simp only [dSeq, dNext, dIfS, dTest, dOp, dVar, dC, dRet, dRetN, dGet, dAnd, dOr, dNot, dAndV, dOrV, dNotV, dIf, dNil, dCons, dTup, dLst, dCB, dM0, dM1, dDrop, dAsg, dgName, dPar, dCal, dChain, dRaise, dRaise2, dFor, diSeq, items, diRange1, diRange2, dLc, dYes, dgTup, dgCons, dgNil, dSl, dPart, dNoPart, dNeg, dPenC, dPenA, dPenL, dPutA, dPutL, dgFld, dNew, dMet, dLstM, dFrz, dApp, dgIx, dAug, startD, List.map_cons, List.map_nil, List.length_cons, List.length_nil, List.replicate, Nat.reduceAdd, Nat.reduceSub, List.cons_append, List.nil_append, List.append_nil, List.set_cons_zero, List.set_cons_succ, List.getElem?_cons_zero, List.getElem?_cons_succ, dFld_eq, gIx0, gIx1, gIx2, gIx3, gIx4, lIx0, lIx1, lIx2, true_and, Nat.reduceLeDiff, gIsi, f_top, f_bot, gEq, eqD, scEq, decide_true]
  exact isi_ins T.i_Ratio T.k_Ratio_Ratio h
theorem p_Fault_eq (T : Txt P K mg A) (ds : List D) (n : NS) (q : D → NS → Prop) (e : DY) (hl : ds.length = 2) (h : s_Fault_eq A ds n q e) : t_Fault_eq K A cs { nx := fun _ n' => q .non n', rt := q, ex := fun _ => e } (startD N_Fault_eq ds) n := by
  obtain ⟨l, rfl, h⟩ := h
  unfold t_Fault_eq
  simp only [dSeq, dNext, dIfS, dTest, dOp, dVar, dC, dRet, dRetN, dGet, dAnd, dOr, dNot, dAndV, dOrV, dNotV, dIf, dNil, dCons, dTup, dLst, dCB, dM0, dM1, dDrop, dAsg, dgName, dPar, dCal, dChain, dRaise, dRaise2, dFor, diSeq, items, diRange1, diRange2, dLc, dYes, dgTup, dgCons, dgNil, dSl, dPart, dNoPart, dNeg, dPenC, dPenA, dPenL, dPutA, dPutL, dgFld, dNew, dMet, dLstM, dFrz, dApp, dgIx, dAug, startD, List.map_cons, List.map_nil, List.length_cons, List.length_nil, List.replicate, Nat.reduceAdd, Nat.reduceSub, List.cons_append, List.nil_append, List.append_nil, List.set_cons_zero, List.set_cons_succ, List.getElem?_cons_zero, List.getElem?_cons_succ, dFld_eq, gIx0, gIx1, gIx2, gIx3, gIx4, lIx0, lIx1, lIx2, true_and, Nat.reduceLeDiff, gIsi, f_kind, gEq, eqD, scEq, decide_true]
  exact isi_ins T.i_Fault T.k_Fault_Fault h
abbrev RF (A : Ad) : List (Addr × DSp) := [(A.Ratio, s_Ratio_eq A), (A.Fault, s_Fault_eq A)]
theorem sm_val {v : D} (h : VAL A v) (m : Nat) : SmD (RF A) m v := by
  cases h with
  | non => cases m <;> rfl
  | bl b => cases m <;> rfl
  | str l h => cases m <;> rfl
  | rat t b =>
    have : ∃ s, (A.Ratio, s) ∈ RF A ∧ ∀ (n : NS) (q : D → NS → Prop) (e : DY), q (.bl true) n → s [ratD A t b, ratD A t b] n q e := ⟨s_Ratio_eq A, by simp, fun n q e h => ⟨t, b, rfl, h⟩⟩
    cases m <;> exact this
  | flt l =>
    have : ∃ s, (A.Fault, s) ∈ RF A ∧ ∀ (n : NS) (q : D → NS → Prop) (e : DY), q (.bl true) n → s [fltD A l, fltD A l] n q e := ⟨s_Fault_eq A, by simp, fun n q e h => ⟨l, rfl, h⟩⟩
    cases m <;> exact this
theorem eq_val {v : D} {n : NS} {q : D → NS → Prop} (h : VAL A v) (hq : q (.bl true) n) : gEqS (RF A) v v n q := by
  have s := sm_val h 6
  cases h with
  | non => exact hq
  | bl b => show q (.bl (decide (b = b))) n; rw [decide_eq_true rfl]; exact hq
  | str l h => show q (.bl (decide (l = l))) n; rw [decide_eq_true rfl]; exact hq
  | rat t b => exact ⟨rfl, s, hq⟩
  | flt l => exact ⟨rfl, s, hq⟩
theorem p_Grid_eq (T : Txt P K mg A) (ds : List D) (n : NS) (q : D → NS → Prop) (e : DY) (hl : ds.length = 2) (h : s_Grid_eq A ds n q e) : t_Grid_eq K A cs { nx := fun _ n' => q .non n', rt := q, ex := fun _ => e } (startD N_Grid_eq ds) n := by
  obtain ⟨rows, rfl, hg, h⟩ := h
  unfold t_Grid_eq
  simp only [dSeq, dNext, dIfS, dTest, dOp, dVar, dC, dRet, dRetN, dGet, dAnd, dOr, dNot, dAndV, dOrV, dNotV, dIf, dNil, dCons, dTup, dLst, dCB, dM0, dM1, dDrop, dAsg, dgName, dPar, dCal, dChain, dRaise, dRaise2, dFor, diSeq, items, diRange1, diRange2, dLc, dYes, dgTup, dgCons, dgNil, dSl, dPart, dNoPart, dNeg, dPenC, dPenA, dPenL, dPutA, dPutL, dgFld, dNew, dMet, dLstM, dFrz, dApp, dgIx, dAug, startD, List.map_cons, List.map_nil, List.length_cons, List.length_nil, List.replicate, Nat.reduceAdd, Nat.reduceSub, List.cons_append, List.nil_append, List.append_nil, List.set_cons_zero, List.set_cons_succ, List.getElem?_cons_zero, List.getElem?_cons_succ, dFld_eq, gIx0, gIx1, gIx2, gIx3, gIx4, lIx0, lIx1, lIx2, true_and, Nat.reduceLeDiff, gIsi, f_rows]
  refine isi_g T ?_
  refine ⟨rfl, fun r hr => ?_, h⟩
  obtain ⟨r, hm, rfl⟩ := List.mem_map.mp hr
  exact fun v hv => sm_val (hg.ok r hm v hv) 4
theorem p_stretch (ds : List D) (n : NS) (q : D → NS → Prop) (e : DY) (hl : ds.length = 1) (h : s_stretch A ds n q e) : t_stretch K A cs { nx := fun _ n' => q .non n', rt := q, ex := fun _ => e } (startD N_stretch ds) n := by
  obtain ⟨x, gs, rfl, hx, h0, h1, h⟩ := h
  have hn : 0 < gs.length := List.length_pos_iff.mpr h0
  unfold t_stretch
  rcases hx with rfl | rfl
  · simp only [dSeq, dNext, dIfS, dTest, dOp, dVar, dC, dRet, dRetN, dGet, dAnd, dOr, dNot, dAndV, dOrV, dNotV, dIf, dNil, dCons, dTup, dLst, dCB, dM0, dM1, dDrop, dAsg, dgName, dPar, dCal, dChain, dRaise, dRaise2, dFor, diSeq, items, diRange1, diRange2, dLc, dYes, dgTup, dgCons, dgNil, dSl, dPart, dNoPart, dNeg, dPenC, dPenA, dPenL, dPutA, dPutL, dgFld, dNew, dMet, dLstM, dFrz, dApp, dgIx, dAug, startD, List.map_cons, List.map_nil, List.length_cons, List.length_nil, List.replicate, Nat.reduceAdd, Nat.reduceSub, List.cons_append, List.nil_append, List.append_nil, List.set_cons_zero, List.set_cons_succ, List.getElem?_cons_zero, List.getElem?_cons_succ, dFld_eq, gIx0, gIx1, gIx2, gIx3, gIx4, lIx0, lIx1, lIx2, true_and, Nat.reduceLeDiff, items]
    refine lc_ok (b := fun g => .int (g.length : Nat)) gs [] (by simp; omega) (fun g hg m q' _ h' => ?_) ?_
    · simp only [wipeD, dSeq, dNext, dIfS, dTest, dOp, dVar, dC, dRet, dRetN, dGet, dAnd, dOr, dNot, dAndV, dOrV, dNotV, dIf, dNil, dCons, dTup, dLst, dCB, dM0, dM1, dDrop, dAsg, dgName, dPar, dCal, dChain, dRaise, dRaise2, dFor, diSeq, items, diRange1, diRange2, dLc, dYes, dgTup, dgCons, dgNil, dSl, dPart, dNoPart, dNeg, dPenC, dPenA, dPenL, dPutA, dPutL, dgFld, dNew, dMet, dLstM, dFrz, dApp, dgIx, dAug, startD, List.map_cons, List.map_nil, List.length_cons, List.length_nil, List.replicate, Nat.reduceAdd, Nat.reduceSub, List.cons_append, List.nil_append, List.append_nil, List.set_cons_zero, List.set_cons_succ, List.getElem?_cons_zero, List.getElem?_cons_succ, dFld_eq, gIx0, gIx1, gIx2, gIx3, gIx4, lIx0, lIx1, lIx2, true_and, Nat.reduceLeDiff, f_height]
      exact h'
    · refine ⟨hts gs, by simp [hts], by simpa [hts] using hn, fun h' hm hb => ?_⟩
      refine lc_ok (b := fun g => .int (wdt g : Nat)) gs [] (by simp; omega) (fun g hg m q' _ h' => ?_) ?_
      · simp only [wipeD, dSeq, dNext, dIfS, dTest, dOp, dVar, dC, dRet, dRetN, dGet, dAnd, dOr, dNot, dAndV, dOrV, dNotV, dIf, dNil, dCons, dTup, dLst, dCB, dM0, dM1, dDrop, dAsg, dgName, dPar, dCal, dChain, dRaise, dRaise2, dFor, diSeq, items, diRange1, diRange2, dLc, dYes, dgTup, dgCons, dgNil, dSl, dPart, dNoPart, dNeg, dPenC, dPenA, dPenL, dPutA, dPutL, dgFld, dNew, dMet, dLstM, dFrz, dApp, dgIx, dAug, startD, List.map_cons, List.map_nil, List.length_cons, List.length_nil, List.replicate, Nat.reduceAdd, Nat.reduceSub, List.cons_append, List.nil_append, List.append_nil, List.set_cons_zero, List.set_cons_succ, List.getElem?_cons_zero, List.getElem?_cons_succ, dFld_eq, gIx0, gIx1, gIx2, gIx3, gIx4, lIx0, lIx1, lIx2, true_and, Nat.reduceLeDiff, f_width]
        exact h'
      · exact ⟨wds gs, by simp [wds], by simpa [wds] using hn, fun w' wm wb => h h' w' ⟨hm, hb⟩ ⟨wm, wb⟩⟩
  · simp only [dSeq, dNext, dIfS, dTest, dOp, dVar, dC, dRet, dRetN, dGet, dAnd, dOr, dNot, dAndV, dOrV, dNotV, dIf, dNil, dCons, dTup, dLst, dCB, dM0, dM1, dDrop, dAsg, dgName, dPar, dCal, dChain, dRaise, dRaise2, dFor, diSeq, items, diRange1, diRange2, dLc, dYes, dgTup, dgCons, dgNil, dSl, dPart, dNoPart, dNeg, dPenC, dPenA, dPenL, dPutA, dPutL, dgFld, dNew, dMet, dLstM, dFrz, dApp, dgIx, dAug, startD, List.map_cons, List.map_nil, List.length_cons, List.length_nil, List.replicate, Nat.reduceAdd, Nat.reduceSub, List.cons_append, List.nil_append, List.append_nil, List.set_cons_zero, List.set_cons_succ, List.getElem?_cons_zero, List.getElem?_cons_succ, dFld_eq, gIx0, gIx1, gIx2, gIx3, gIx4, lIx0, lIx1, lIx2, true_and, Nat.reduceLeDiff, items]
    refine lc_ok (b := fun g => .int (g.length : Nat)) gs [] (by simp; omega) (fun g hg m q' _ h' => ?_) ?_
    · simp only [wipeD, dSeq, dNext, dIfS, dTest, dOp, dVar, dC, dRet, dRetN, dGet, dAnd, dOr, dNot, dAndV, dOrV, dNotV, dIf, dNil, dCons, dTup, dLst, dCB, dM0, dM1, dDrop, dAsg, dgName, dPar, dCal, dChain, dRaise, dRaise2, dFor, diSeq, items, diRange1, diRange2, dLc, dYes, dgTup, dgCons, dgNil, dSl, dPart, dNoPart, dNeg, dPenC, dPenA, dPenL, dPutA, dPutL, dgFld, dNew, dMet, dLstM, dFrz, dApp, dgIx, dAug, startD, List.map_cons, List.map_nil, List.length_cons, List.length_nil, List.replicate, Nat.reduceAdd, Nat.reduceSub, List.cons_append, List.nil_append, List.append_nil, List.set_cons_zero, List.set_cons_succ, List.getElem?_cons_zero, List.getElem?_cons_succ, dFld_eq, gIx0, gIx1, gIx2, gIx3, gIx4, lIx0, lIx1, lIx2, true_and, Nat.reduceLeDiff, f_height]
      exact h'
    · refine ⟨hts gs, by simp [hts], by simpa [hts] using hn, fun h' hm hb => ?_⟩
      refine lc_ok (b := fun g => .int (wdt g : Nat)) gs [] (by simp; omega) (fun g hg m q' _ h' => ?_) ?_
      · simp only [wipeD, dSeq, dNext, dIfS, dTest, dOp, dVar, dC, dRet, dRetN, dGet, dAnd, dOr, dNot, dAndV, dOrV, dNotV, dIf, dNil, dCons, dTup, dLst, dCB, dM0, dM1, dDrop, dAsg, dgName, dPar, dCal, dChain, dRaise, dRaise2, dFor, diSeq, items, diRange1, diRange2, dLc, dYes, dgTup, dgCons, dgNil, dSl, dPart, dNoPart, dNeg, dPenC, dPenA, dPenL, dPutA, dPutL, dgFld, dNew, dMet, dLstM, dFrz, dApp, dgIx, dAug, startD, List.map_cons, List.map_nil, List.length_cons, List.length_nil, List.replicate, Nat.reduceAdd, Nat.reduceSub, List.cons_append, List.nil_append, List.append_nil, List.set_cons_zero, List.set_cons_succ, List.getElem?_cons_zero, List.getElem?_cons_succ, dFld_eq, gIx0, gIx1, gIx2, gIx3, gIx4, lIx0, lIx1, lIx2, true_and, Nat.reduceLeDiff, f_width]
        exact h'
      · exact ⟨wds gs, by simp [wds], by simpa [wds] using hn, fun w' wm wb => h h' w' ⟨hm, hb⟩ ⟨wm, wb⟩⟩
end
end K43

set_option Elab.async false
set_option linter.all false
set_option maxRecDepth 100000
set_option maxHeartbeats 8000000
set_option autoImplicit false
/-! k43: places of grids. -/
namespace K43
open PySem PySem.Spec PyProof.Rows L2 DL
section
variable {P : Program} {K : PySem.W.Frag} {mg : Str → Option Value} {A : Ad} {cs : List Int}
theorem isi_kg (T : Txt P K mg A) {x : D} {k : Bool → Prop} (hx : KG x) (h : k false) : isiD K x (.ref A.Grid) k := by
  rcases hx with rfl | ⟨b, rfl⟩ | ⟨i, rfl⟩ | ⟨l, rfl⟩ | ⟨xs, rfl⟩
  · exact ⟨.type "NoneType", .ref A.Grid, false, .inl ⟨_, rfl, rfl⟩, rfl, T.k_NoneType_Grid, h⟩
  · exact ⟨.type "bool", .ref A.Grid, false, .inl ⟨_, rfl, rfl⟩, rfl, T.k_bool_Grid, h⟩
  · exact ⟨.type "int", .ref A.Grid, false, .inl ⟨_, rfl, rfl⟩, rfl, T.k_int_Grid, h⟩
  · exact ⟨.type "str", .ref A.Grid, false, .inl ⟨_, rfl, rfl⟩, rfl, T.k_str_Grid, h⟩
  · exact ⟨.type "list", .ref A.Grid, false, .inl ⟨_, rfl, rfl⟩, rfl, T.k_list_Grid, h⟩
theorem st_loop (T : Txt P K mg A) {x : Option D} {k : DEnds} {n : NS} {ds : List D} (H : ∀ z, dForL (dgName 1) (l_stretched_3 K A cs) ds k [x, z] n) : ∀ (gs : List (List (List D))) (z : Option D), dForL (dgName 1) (l_stretched_3 K A cs) (gs.map (gridD A) ++ ds) k [x, z] n
  | [], z => H z
  | g :: gs, z => by
    show dForL (dgName 1) (l_stretched_3 K A cs) (gridD A g :: (gs.map (gridD A) ++ ds)) k [x, z] n
    unfold dForL
    show l_stretched_3 K A cs _ _ n
    unfold l_stretched_3
    simp only [dSeq, dNext, dIfS, dTest, dOp, dVar, dC, dRet, dRetN, dGet, dAnd, dOr, dNot, dAndV, dOrV, dNotV, dIf, dNil, dCons, dTup, dLst, dCB, dM0, dM1, dDrop, dAsg, dgName, dPar, dCal, dChain, dRaise, dRaise2, dFor, diSeq, items, diRange1, diRange2, dLc, dYes, dgTup, dgCons, dgNil, dSl, dPart, dNoPart, dNeg, dPenC, dPenA, dPenL, dPutA, dPutL, dgFld, dNew, dMet, dLstM, dFrz, dApp, dgIx, dAug, startD, List.map_cons, List.map_nil, List.length_cons, List.length_nil, List.replicate, Nat.reduceAdd, Nat.reduceSub, List.cons_append, List.nil_append, List.append_nil, List.set_cons_zero, List.set_cons_succ, List.getElem?_cons_zero, List.getElem?_cons_succ, dFld_eq, gIx0, gIx1, gIx2, gIx3, gIx4, lIx0, lIx1, lIx2, true_and, Nat.reduceLeDiff, gIsi]
    exact isi_g T (st_loop T H gs _)
theorem p_stretched (T : Txt P K mg A) (ds : List D) (n : NS) (q : D → NS → Prop) (e : DY) (hl : ds.length = 1) (h : s_stretched A ds n q e) : t_stretched K A cs { nx := fun _ n' => q .non n', rt := q, ex := fun _ => e } (startD N_stretched ds) n := by
  obtain ⟨x, rfl, h⟩ := h
  unfold t_stretched
  simp only [dSeq, dNext, dIfS, dTest, dOp, dVar, dC, dRet, dRetN, dGet, dAnd, dOr, dNot, dAndV, dOrV, dNotV, dIf, dNil, dCons, dTup, dLst, dCB, dM0, dM1, dDrop, dAsg, dgName, dPar, dCal, dChain, dRaise, dRaise2, dFor, diSeq, items, diRange1, diRange2, dLc, dYes, dgTup, dgCons, dgNil, dSl, dPart, dNoPart, dNeg, dPenC, dPenA, dPenL, dPutA, dPutL, dgFld, dNew, dMet, dLstM, dFrz, dApp, dgIx, dAug, startD, List.map_cons, List.map_nil, List.length_cons, List.length_nil, List.replicate, Nat.reduceAdd, Nat.reduceSub, List.cons_append, List.nil_append, List.append_nil, List.set_cons_zero, List.set_cons_succ, List.getElem?_cons_zero, List.getElem?_cons_succ, dFld_eq, gIx0, gIx1, gIx2, gIx3, gIx4, lIx0, lIx1, lIx2, true_and, Nat.reduceLeDiff]
  refine ⟨x, rfl, ?_⟩
  rcases h with ⟨gs, hx, h0, h1, h⟩ | ⟨rows, y, zs, rfl, hy, h⟩ | ⟨rfl, h⟩ | ⟨rows, rfl, h⟩
  · have hn : 0 < gs.length := List.length_pos_iff.mpr h0
    have c : ¬ ((gs.length : Nat) : Int) = 0 := by omega
    have fin : ∀ z, (x = .lst (gs.map (gridD A)) ∨ x = .tup (gs.map (gridD A))) → u_stretched_3 K A cs { nx := fun _ n' => q .non n', rt := q, ex := fun _ => e } [some x, z] n := fun z hx => by
      unfold u_stretched_3
      rcases hx with rfl | rfl
      · simp only [dSeq, dNext, dIfS, dTest, dOp, dVar, dC, dRet, dRetN, dGet, dAnd, dOr, dNot, dAndV, dOrV, dNotV, dIf, dNil, dCons, dTup, dLst, dCB, dM0, dM1, dDrop, dAsg, dgName, dPar, dCal, dChain, dRaise, dRaise2, dFor, diSeq, items, diRange1, diRange2, dLc, dYes, dgTup, dgCons, dgNil, dSl, dPart, dNoPart, dNeg, dPenC, dPenA, dPenL, dPutA, dPutL, dgFld, dNew, dMet, dLstM, dFrz, dApp, dgIx, dAug, startD, List.map_cons, List.map_nil, List.length_cons, List.length_nil, List.replicate, Nat.reduceAdd, Nat.reduceSub, List.cons_append, List.nil_append, List.append_nil, List.set_cons_zero, List.set_cons_succ, List.getElem?_cons_zero, List.getElem?_cons_succ, dFld_eq, gIx0, gIx1, gIx2, gIx3, gIx4, lIx0, lIx1, lIx2, true_and, Nat.reduceLeDiff, gLen, List.length_map, gEq, eqD, scEq, c, decide_false]
        unfold u_stretched_4
        simp only [dSeq, dNext, dIfS, dTest, dOp, dVar, dC, dRet, dRetN, dGet, dAnd, dOr, dNot, dAndV, dOrV, dNotV, dIf, dNil, dCons, dTup, dLst, dCB, dM0, dM1, dDrop, dAsg, dgName, dPar, dCal, dChain, dRaise, dRaise2, dFor, diSeq, items, diRange1, diRange2, dLc, dYes, dgTup, dgCons, dgNil, dSl, dPart, dNoPart, dNeg, dPenC, dPenA, dPenL, dPutA, dPutL, dgFld, dNew, dMet, dLstM, dFrz, dApp, dgIx, dAug, startD, List.map_cons, List.map_nil, List.length_cons, List.length_nil, List.replicate, Nat.reduceAdd, Nat.reduceSub, List.cons_append, List.nil_append, List.append_nil, List.set_cons_zero, List.set_cons_succ, List.getElem?_cons_zero, List.getElem?_cons_succ, dFld_eq, gIx0, gIx1, gIx2, gIx3, gIx4, lIx0, lIx1, lIx2, true_and, Nat.reduceLeDiff]
        exact ⟨_, gs, rfl, .inl rfl, h0, h1, h⟩
      · simp only [dSeq, dNext, dIfS, dTest, dOp, dVar, dC, dRet, dRetN, dGet, dAnd, dOr, dNot, dAndV, dOrV, dNotV, dIf, dNil, dCons, dTup, dLst, dCB, dM0, dM1, dDrop, dAsg, dgName, dPar, dCal, dChain, dRaise, dRaise2, dFor, diSeq, items, diRange1, diRange2, dLc, dYes, dgTup, dgCons, dgNil, dSl, dPart, dNoPart, dNeg, dPenC, dPenA, dPenL, dPutA, dPutL, dgFld, dNew, dMet, dLstM, dFrz, dApp, dgIx, dAug, startD, List.map_cons, List.map_nil, List.length_cons, List.length_nil, List.replicate, Nat.reduceAdd, Nat.reduceSub, List.cons_append, List.nil_append, List.append_nil, List.set_cons_zero, List.set_cons_succ, List.getElem?_cons_zero, List.getElem?_cons_succ, dFld_eq, gIx0, gIx1, gIx2, gIx3, gIx4, lIx0, lIx1, lIx2, true_and, Nat.reduceLeDiff, gLen, List.length_map, gEq, eqD, scEq, c, decide_false]
        unfold u_stretched_4
        simp only [dSeq, dNext, dIfS, dTest, dOp, dVar, dC, dRet, dRetN, dGet, dAnd, dOr, dNot, dAndV, dOrV, dNotV, dIf, dNil, dCons, dTup, dLst, dCB, dM0, dM1, dDrop, dAsg, dgName, dPar, dCal, dChain, dRaise, dRaise2, dFor, diSeq, items, diRange1, diRange2, dLc, dYes, dgTup, dgCons, dgNil, dSl, dPart, dNoPart, dNeg, dPenC, dPenA, dPenL, dPutA, dPutL, dgFld, dNew, dMet, dLstM, dFrz, dApp, dgIx, dAug, startD, List.map_cons, List.map_nil, List.length_cons, List.length_nil, List.replicate, Nat.reduceAdd, Nat.reduceSub, List.cons_append, List.nil_append, List.append_nil, List.set_cons_zero, List.set_cons_succ, List.getElem?_cons_zero, List.getElem?_cons_succ, dFld_eq, gIx0, gIx1, gIx2, gIx3, gIx4, lIx0, lIx1, lIx2, true_and, Nat.reduceLeDiff]
        exact ⟨_, gs, rfl, .inr rfl, h0, h1, h⟩
    refine .inl ⟨gs.map (gridD A), hx, ?_⟩
    unfold u_stretched_2
    rcases hx with rfl | rfl
    · simp only [dSeq, dNext, dIfS, dTest, dOp, dVar, dC, dRet, dRetN, dGet, dAnd, dOr, dNot, dAndV, dOrV, dNotV, dIf, dNil, dCons, dTup, dLst, dCB, dM0, dM1, dDrop, dAsg, dgName, dPar, dCal, dChain, dRaise, dRaise2, dFor, diSeq, items, diRange1, diRange2, dLc, dYes, dgTup, dgCons, dgNil, dSl, dPart, dNoPart, dNeg, dPenC, dPenA, dPenL, dPutA, dPutL, dgFld, dNew, dMet, dLstM, dFrz, dApp, dgIx, dAug, startD, List.map_cons, List.map_nil, List.length_cons, List.length_nil, List.replicate, Nat.reduceAdd, Nat.reduceSub, List.cons_append, List.nil_append, List.append_nil, List.set_cons_zero, List.set_cons_succ, List.getElem?_cons_zero, List.getElem?_cons_succ, dFld_eq, gIx0, gIx1, gIx2, gIx3, gIx4, lIx0, lIx1, lIx2, true_and, Nat.reduceLeDiff, items]
      rw [← List.append_nil (gs.map (gridD A))]
      exact st_loop T (fun z => by rw [List.append_nil]; exact fin z (.inl rfl)) gs none
    · simp only [dSeq, dNext, dIfS, dTest, dOp, dVar, dC, dRet, dRetN, dGet, dAnd, dOr, dNot, dAndV, dOrV, dNotV, dIf, dNil, dCons, dTup, dLst, dCB, dM0, dM1, dDrop, dAsg, dgName, dPar, dCal, dChain, dRaise, dRaise2, dFor, diSeq, items, diRange1, diRange2, dLc, dYes, dgTup, dgCons, dgNil, dSl, dPart, dNoPart, dNeg, dPenC, dPenA, dPenL, dPutA, dPutL, dgFld, dNew, dMet, dLstM, dFrz, dApp, dgIx, dAug, startD, List.map_cons, List.map_nil, List.length_cons, List.length_nil, List.replicate, Nat.reduceAdd, Nat.reduceSub, List.cons_append, List.nil_append, List.append_nil, List.set_cons_zero, List.set_cons_succ, List.getElem?_cons_zero, List.getElem?_cons_succ, dFld_eq, gIx0, gIx1, gIx2, gIx3, gIx4, lIx0, lIx1, lIx2, true_and, Nat.reduceLeDiff, items]
      rw [← List.append_nil (gs.map (gridD A))]
      exact st_loop T (fun z => by rw [List.append_nil]; exact fin z (.inr rfl)) gs none
  · refine .inl ⟨_, .inl rfl, ?_⟩
    unfold u_stretched_2
    simp only [dSeq, dNext, dIfS, dTest, dOp, dVar, dC, dRet, dRetN, dGet, dAnd, dOr, dNot, dAndV, dOrV, dNotV, dIf, dNil, dCons, dTup, dLst, dCB, dM0, dM1, dDrop, dAsg, dgName, dPar, dCal, dChain, dRaise, dRaise2, dFor, diSeq, items, diRange1, diRange2, dLc, dYes, dgTup, dgCons, dgNil, dSl, dPart, dNoPart, dNeg, dPenC, dPenA, dPenL, dPutA, dPutL, dgFld, dNew, dMet, dLstM, dFrz, dApp, dgIx, dAug, startD, List.map_cons, List.map_nil, List.length_cons, List.length_nil, List.replicate, Nat.reduceAdd, Nat.reduceSub, List.cons_append, List.nil_append, List.append_nil, List.set_cons_zero, List.set_cons_succ, List.getElem?_cons_zero, List.getElem?_cons_succ, dFld_eq, gIx0, gIx1, gIx2, gIx3, gIx4, lIx0, lIx1, lIx2, true_and, Nat.reduceLeDiff, items]
    refine st_loop T (ds := y :: zs) (fun z => ?_) [rows] none
    unfold dForL
    show l_stretched_3 K A cs _ _ n
    unfold l_stretched_3
    simp only [dSeq, dNext, dIfS, dTest, dOp, dVar, dC, dRet, dRetN, dGet, dAnd, dOr, dNot, dAndV, dOrV, dNotV, dIf, dNil, dCons, dTup, dLst, dCB, dM0, dM1, dDrop, dAsg, dgName, dPar, dCal, dChain, dRaise, dRaise2, dFor, diSeq, items, diRange1, diRange2, dLc, dYes, dgTup, dgCons, dgNil, dSl, dPart, dNoPart, dNeg, dPenC, dPenA, dPenL, dPutA, dPutL, dgFld, dNew, dMet, dLstM, dFrz, dApp, dgIx, dAug, startD, List.map_cons, List.map_nil, List.length_cons, List.length_nil, List.replicate, Nat.reduceAdd, Nat.reduceSub, List.cons_append, List.nil_append, List.append_nil, List.set_cons_zero, List.set_cons_succ, List.getElem?_cons_zero, List.getElem?_cons_succ, dFld_eq, gIx0, gIx1, gIx2, gIx3, gIx4, lIx0, lIx1, lIx2, true_and, Nat.reduceLeDiff, gIsi]
    exact isi_kg T hy h
  · refine .inl ⟨_, .inl rfl, ?_⟩
    unfold u_stretched_2
    simp only [dSeq, dNext, dIfS, dTest, dOp, dVar, dC, dRet, dRetN, dGet, dAnd, dOr, dNot, dAndV, dOrV, dNotV, dIf, dNil, dCons, dTup, dLst, dCB, dM0, dM1, dDrop, dAsg, dgName, dPar, dCal, dChain, dRaise, dRaise2, dFor, diSeq, items, diRange1, diRange2, dLc, dYes, dgTup, dgCons, dgNil, dSl, dPart, dNoPart, dNeg, dPenC, dPenA, dPenL, dPutA, dPutL, dgFld, dNew, dMet, dLstM, dFrz, dApp, dgIx, dAug, startD, List.map_cons, List.map_nil, List.length_cons, List.length_nil, List.replicate, Nat.reduceAdd, Nat.reduceSub, List.cons_append, List.nil_append, List.append_nil, List.set_cons_zero, List.set_cons_succ, List.getElem?_cons_zero, List.getElem?_cons_succ, dFld_eq, gIx0, gIx1, gIx2, gIx3, gIx4, lIx0, lIx1, lIx2, true_and, Nat.reduceLeDiff, items, dForL]
    unfold u_stretched_3
    simp only [dSeq, dNext, dIfS, dTest, dOp, dVar, dC, dRet, dRetN, dGet, dAnd, dOr, dNot, dAndV, dOrV, dNotV, dIf, dNil, dCons, dTup, dLst, dCB, dM0, dM1, dDrop, dAsg, dgName, dPar, dCal, dChain, dRaise, dRaise2, dFor, diSeq, items, diRange1, diRange2, dLc, dYes, dgTup, dgCons, dgNil, dSl, dPart, dNoPart, dNeg, dPenC, dPenA, dPenL, dPutA, dPutL, dgFld, dNew, dMet, dLstM, dFrz, dApp, dgIx, dAug, startD, List.map_cons, List.map_nil, List.length_cons, List.length_nil, List.replicate, Nat.reduceAdd, Nat.reduceSub, List.cons_append, List.nil_append, List.append_nil, List.set_cons_zero, List.set_cons_succ, List.getElem?_cons_zero, List.getElem?_cons_succ, dFld_eq, gIx0, gIx1, gIx2, gIx3, gIx4, lIx0, lIx1, lIx2, true_and, Nat.reduceLeDiff, gLen, gEq, eqD, scEq, Int.natCast_zero, decide_true, Int.cast_ofNat_Int]
    exact h
  · exact .inr ⟨rows, rfl, h⟩
theorem atR {rows : List (List D)} {f : List D → D} {i : Int} (h0 : 0 ≤ i) (h1 : i < rows.length) : L2.atI (rows.map f) i = some (f (rows.getD i.toNat [])) := by
  obtain ⟨j, rfl⟩ := Int.eq_ofNat_of_zero_le h0
  rw [DL.atI_nat (by rw [List.length_map]; omega)]
  have : j < rows.length := by omega
  simp [this]
theorem atV {r : List D} {i : Int} (h0 : 0 ≤ i) (h1 : i < r.length) : L2.atI r i = some (r.getD i.toNat .non) := by
  obtain ⟨j, rfl⟩ := Int.eq_ofNat_of_zero_le h0
  rw [DL.atI_nat (by omega)]
  have : j < r.length := by omega
  simp [this]
theorem row_mem {rows : List (List D)} {i : Nat} (h : i < rows.length) : rows.getD i [] ∈ rows := by
  simp [h]
theorem getD_mem {l : List D} {i : Nat} (h : i < l.length) : l.getD i .non ∈ l := by simp [h]
theorem GR.giv {rows : List (List D)} (h : GR A rows) {r c : Int} (hr : 1 ≤ r) (hc : 1 ≤ c) : VAL A (giv A rows r c) := by
  unfold K43.giv
  generalize hd : (if rows.length = 1 then (1 : Int) else r) = d
  generalize hw : (if wdt rows = 1 then (1 : Int) else c) = w
  have d1 : 1 ≤ d := by rw [← hd]; split <;> omega
  have w1 : 1 ≤ w := by rw [← hw]; split <;> omega
  split
  · exact .flt _
  · rename_i z
    have m1 := row_mem (rows := rows) (i := (d - 1).toNat) (by omega)
    have e1 := h.wd _ m1
    have : (w - 1).toNat < (rows.getD (d - 1).toNat []).length := by rw [e1]; omega
    refine h.ok _ m1 _ ?_
    exact getD_mem this
theorem flt_na {n : NS} {q : D → NS → Prop} {e : DY} (h : q (fltD A tx_na) n) : s_Fault A [.str [78, 65]] n q e := ⟨_, rfl, .inl rfl, h⟩
theorem p_part_within (ds : List D) (n : NS) (q : D → NS → Prop) (e : DY) (hl : ds.length = 3) (h : s_part_within A ds n q e) : t_part_within K A cs { nx := fun _ n' => q .non n', rt := q, ex := fun _ => e } (startD N_part_within ds) n := by
  obtain ⟨rows, r, c, rfl, hg, hr, hc, h⟩ := h
  have main : ∀ d w : Int, d = (if rows.length = 1 then 1 else r) → w = (if wdt rows = 1 then 1 else c) → u_part_within_3 K A cs { nx := fun _ n' => q .non n', rt := q, ex := fun _ => e } [some (gridD A rows), some (.int r), some (.int c), some (.int d), some (.int w)] n := fun d w hd hw => by
    have d1 : 1 ≤ d := by rw [hd]; split <;> omega
    have w1 : 1 ≤ w := by rw [hw]; split <;> omega
    unfold K43.giv at h
    rw [← hd, ← hw] at h
    unfold u_part_within_3
    simp only [dSeq, dNext, dIfS, dTest, dOp, dVar, dC, dRet, dRetN, dGet, dAnd, dOr, dNot, dAndV, dOrV, dNotV, dIf, dNil, dCons, dTup, dLst, dCB, dM0, dM1, dDrop, dAsg, dgName, dPar, dCal, dChain, dRaise, dRaise2, dFor, diSeq, items, diRange1, diRange2, dLc, dYes, dgTup, dgCons, dgNil, dSl, dPart, dNoPart, dNeg, dPenC, dPenA, dPenL, dPutA, dPutL, dgFld, dNew, dMet, dLstM, dFrz, dApp, dgIx, dAug, startD, List.map_cons, List.map_nil, List.length_cons, List.length_nil, List.replicate, Nat.reduceAdd, Nat.reduceSub, List.cons_append, List.nil_append, List.append_nil, List.set_cons_zero, List.set_cons_succ, List.getElem?_cons_zero, List.getElem?_cons_succ, dFld_eq, gIx0, gIx1, gIx2, gIx3, gIx4, lIx0, lIx1, lIx2, true_and, Nat.reduceLeDiff, f_height, f_width, gGt, gOrd, g_Fault_new0]
    by_cases z1 : d > (rows.length : Int)
    · rw [if_pos (.inl z1)] at h
      simp only [z1, decide_true]
      exact flt_na h
    · simp only [z1, decide_false]
      by_cases z2 : w > (wdt rows : Int)
      · rw [if_pos (.inr z2)] at h
        simp only [z2, decide_true]
        exact flt_na h
      · rw [if_neg (by omega)] at h
        simp only [z2, decide_false]
        unfold u_part_within_4
        simp only [dSeq, dNext, dIfS, dTest, dOp, dVar, dC, dRet, dRetN, dGet, dAnd, dOr, dNot, dAndV, dOrV, dNotV, dIf, dNil, dCons, dTup, dLst, dCB, dM0, dM1, dDrop, dAsg, dgName, dPar, dCal, dChain, dRaise, dRaise2, dFor, diSeq, items, diRange1, diRange2, dLc, dYes, dgTup, dgCons, dgNil, dSl, dPart, dNoPart, dNeg, dPenC, dPenA, dPenL, dPutA, dPutL, dgFld, dNew, dMet, dLstM, dFrz, dApp, dgIx, dAug, startD, List.map_cons, List.map_nil, List.length_cons, List.length_nil, List.replicate, Nat.reduceAdd, Nat.reduceSub, List.cons_append, List.nil_append, List.append_nil, List.set_cons_zero, List.set_cons_succ, List.getElem?_cons_zero, List.getElem?_cons_succ, dFld_eq, gIx0, gIx1, gIx2, gIx3, gIx4, lIx0, lIx1, lIx2, true_and, Nat.reduceLeDiff, f_rows, DL.gSub, gI0, gIx]
        refine ⟨_, atR (f := D.tup) (by omega) (by omega), ?_⟩
        have e1 := hg.wd _ (row_mem (rows := rows) (i := (d - 1).toNat) (by omega))
        exact ⟨_, atV (by omega) (by rw [e1]; omega), h⟩
  unfold t_part_within
  simp only [dSeq, dNext, dIfS, dTest, dOp, dVar, dC, dRet, dRetN, dGet, dAnd, dOr, dNot, dAndV, dOrV, dNotV, dIf, dNil, dCons, dTup, dLst, dCB, dM0, dM1, dDrop, dAsg, dgName, dPar, dCal, dChain, dRaise, dRaise2, dFor, diSeq, items, diRange1, diRange2, dLc, dYes, dgTup, dgCons, dgNil, dSl, dPart, dNoPart, dNeg, dPenC, dPenA, dPenL, dPutA, dPutL, dgFld, dNew, dMet, dLstM, dFrz, dApp, dgIx, dAug, startD, List.map_cons, List.map_nil, List.length_cons, List.length_nil, List.replicate, Nat.reduceAdd, Nat.reduceSub, List.cons_append, List.nil_append, List.append_nil, List.set_cons_zero, List.set_cons_succ, List.getElem?_cons_zero, List.getElem?_cons_succ, dFld_eq, gIx0, gIx1, gIx2, gIx3, gIx4, lIx0, lIx1, lIx2, true_and, Nat.reduceLeDiff, f_height, gEq, eqD, scEq]
  have two : ∀ d : Int, d = (if rows.length = 1 then 1 else r) → u_part_within_2 K A cs { nx := fun _ n' => q .non n', rt := q, ex := fun _ => e } [some (gridD A rows), some (.int r), some (.int c), some (.int d), none] n := fun d hd => by
    unfold u_part_within_2
    simp only [dSeq, dNext, dIfS, dTest, dOp, dVar, dC, dRet, dRetN, dGet, dAnd, dOr, dNot, dAndV, dOrV, dNotV, dIf, dNil, dCons, dTup, dLst, dCB, dM0, dM1, dDrop, dAsg, dgName, dPar, dCal, dChain, dRaise, dRaise2, dFor, diSeq, items, diRange1, diRange2, dLc, dYes, dgTup, dgCons, dgNil, dSl, dPart, dNoPart, dNeg, dPenC, dPenA, dPenL, dPutA, dPutL, dgFld, dNew, dMet, dLstM, dFrz, dApp, dgIx, dAug, startD, List.map_cons, List.map_nil, List.length_cons, List.length_nil, List.replicate, Nat.reduceAdd, Nat.reduceSub, List.cons_append, List.nil_append, List.append_nil, List.set_cons_zero, List.set_cons_succ, List.getElem?_cons_zero, List.getElem?_cons_succ, dFld_eq, gIx0, gIx1, gIx2, gIx3, gIx4, lIx0, lIx1, lIx2, true_and, Nat.reduceLeDiff, f_width, gEq, eqD, scEq]
    by_cases z : (wdt rows : Int) = 1
    · simp only [z, decide_true]
      exact main _ _ hd (by rw [if_pos (by omega)])
    · simp only [z, decide_false]
      exact main _ _ hd (by rw [if_neg (by omega)])
  by_cases z : (rows.length : Int) = 1
  · simp only [z, decide_true]
    exact two _ (by rw [if_pos (by omega)])
  · simp only [z, decide_false]
    exact two _ (by rw [if_neg (by omega)])
theorem pa_good {i : Int} {g x y : Option D} {k : DEnds} {n : NS} (h : 1 ≤ i) (H : k.nx [g, x, y, some (.int i)] n) : l_part_at_2 K A cs k [g, x, y, some (.int i)] n := by
  unfold l_part_at_2
  simp only [dSeq, dNext, dIfS, dTest, dOp, dVar, dC, dRet, dRetN, dGet, dAnd, dOr, dNot, dAndV, dOrV, dNotV, dIf, dNil, dCons, dTup, dLst, dCB, dM0, dM1, dDrop, dAsg, dgName, dPar, dCal, dChain, dRaise, dRaise2, dFor, diSeq, items, diRange1, diRange2, dLc, dYes, dgTup, dgCons, dgNil, dSl, dPart, dNoPart, dNeg, dPenC, dPenA, dPenL, dPutA, dPutL, dgFld, dNew, dMet, dLstM, dFrz, dApp, dgIx, dAug, startD, List.map_cons, List.map_nil, List.length_cons, List.length_nil, List.replicate, Nat.reduceAdd, Nat.reduceSub, List.cons_append, List.nil_append, List.append_nil, List.set_cons_zero, List.set_cons_succ, List.getElem?_cons_zero, List.getElem?_cons_succ, dFld_eq, gIx0, gIx1, gIx2, gIx3, gIx4, lIx0, lIx1, lIx2, true_and, Nat.reduceLeDiff, gLt, gOrd]
  refine ⟨_, rfl, rfl, ?_⟩
  have c : ¬ i < 1 := by omega
  simp only [isIntD, Bool.not_true, c, decide_false]
  exact H
theorem pa_bad {w : D} {g x y : Option D} {k : DEnds} {n : NS} (hk : kd w) (hb : badN w) (H : k.ex [g, x, y, some w] A.BadValue ["value"] [w] n) : l_part_at_2 K A cs k [g, x, y, some w] n := by
  unfold l_part_at_2
  simp only [dSeq, dNext, dIfS, dTest, dOp, dVar, dC, dRet, dRetN, dGet, dAnd, dOr, dNot, dAndV, dOrV, dNotV, dIf, dNil, dCons, dTup, dLst, dCB, dM0, dM1, dDrop, dAsg, dgName, dPar, dCal, dChain, dRaise, dRaise2, dFor, diSeq, items, diRange1, diRange2, dLc, dYes, dgTup, dgCons, dgNil, dSl, dPart, dNoPart, dNeg, dPenC, dPenA, dPenL, dPutA, dPutL, dgFld, dNew, dMet, dLstM, dFrz, dApp, dgIx, dAug, startD, List.map_cons, List.map_nil, List.length_cons, List.length_nil, List.replicate, Nat.reduceAdd, Nat.reduceSub, List.cons_append, List.nil_append, List.append_nil, List.set_cons_zero, List.set_cons_succ, List.getElem?_cons_zero, List.getElem?_cons_succ, dFld_eq, gIx0, gIx1, gIx2, gIx3, gIx4, lIx0, lIx1, lIx2, true_and, Nat.reduceLeDiff, gLt, gOrd]
  refine ⟨_, rfl, hk, ?_⟩
  unfold kd at hk
  cases w <;> first | (simp [kindD] at hk; done) | skip
  case int i =>
    have c : i < 1 := hb i rfl
    simp only [isIntD, Bool.not_true, c, decide_true]
    exact H
  all_goals
    simp only [isIntD, Bool.not_false]
    exact H
theorem p_part_at (T : Txt P K mg A) (ds : List D) (n : NS) (q : D → NS → Prop) (e : DY) (hl : ds.length = 3) (h : s_part_at A ds n q e) : t_part_at K A cs { nx := fun _ n' => q .non n', rt := q, ex := fun _ => e } (startD N_part_at ds) n := by
  obtain ⟨g, x, y, rfl, h⟩ := h
  unfold t_part_at
  simp only [dSeq, dNext, dIfS, dTest, dOp, dVar, dC, dRet, dRetN, dGet, dAnd, dOr, dNot, dAndV, dOrV, dNotV, dIf, dNil, dCons, dTup, dLst, dCB, dM0, dM1, dDrop, dAsg, dgName, dPar, dCal, dChain, dRaise, dRaise2, dFor, diSeq, items, diRange1, diRange2, dLc, dYes, dgTup, dgCons, dgNil, dSl, dPart, dNoPart, dNeg, dPenC, dPenA, dPenL, dPutA, dPutL, dgFld, dNew, dMet, dLstM, dFrz, dApp, dgIx, dAug, startD, List.map_cons, List.map_nil, List.length_cons, List.length_nil, List.replicate, Nat.reduceAdd, Nat.reduceSub, List.cons_append, List.nil_append, List.append_nil, List.set_cons_zero, List.set_cons_succ, List.getElem?_cons_zero, List.getElem?_cons_succ, dFld_eq, gIx0, gIx1, gIx2, gIx3, gIx4, lIx0, lIx1, lIx2, true_and, Nat.reduceLeDiff, gIsi]
  rcases h with ⟨hk, h⟩ | ⟨rows, rfl, hg, h⟩
  · exact isi_kg T hk h
  refine isi_g T ?_
  unfold u_part_at_2
  simp only [dSeq, dNext, dIfS, dTest, dOp, dVar, dC, dRet, dRetN, dGet, dAnd, dOr, dNot, dAndV, dOrV, dNotV, dIf, dNil, dCons, dTup, dLst, dCB, dM0, dM1, dDrop, dAsg, dgName, dPar, dCal, dChain, dRaise, dRaise2, dFor, diSeq, items, diRange1, diRange2, dLc, dYes, dgTup, dgCons, dgNil, dSl, dPart, dNoPart, dNeg, dPenC, dPenA, dPenL, dPutA, dPutL, dgFld, dNew, dMet, dLstM, dFrz, dApp, dgIx, dAug, startD, List.map_cons, List.map_nil, List.length_cons, List.length_nil, List.replicate, Nat.reduceAdd, Nat.reduceSub, List.cons_append, List.nil_append, List.append_nil, List.set_cons_zero, List.set_cons_succ, List.getElem?_cons_zero, List.getElem?_cons_succ, dFld_eq, gIx0, gIx1, gIx2, gIx3, gIx4, lIx0, lIx1, lIx2, true_and, Nat.reduceLeDiff, items, dForL]
  rcases h with ⟨hk, hb, h⟩ | ⟨r, rfl, hr, hk, hb, h⟩ | ⟨r, c, rfl, rfl, hr, hc, h⟩
  · exact pa_bad (K := K) (cs := cs) hk hb h
  · refine pa_good (K := K) (A := A) (cs := cs) hr ?_
    exact pa_bad (K := K) (cs := cs) hk hb h
  · refine pa_good (K := K) (A := A) (cs := cs) hr ?_
    refine pa_good (K := K) (A := A) (cs := cs) hc ?_
    simp only
    unfold u_part_at_3
    simp only [dSeq, dNext, dIfS, dTest, dOp, dVar, dC, dRet, dRetN, dGet, dAnd, dOr, dNot, dAndV, dOrV, dNotV, dIf, dNil, dCons, dTup, dLst, dCB, dM0, dM1, dDrop, dAsg, dgName, dPar, dCal, dChain, dRaise, dRaise2, dFor, diSeq, items, diRange1, diRange2, dLc, dYes, dgTup, dgCons, dgNil, dSl, dPart, dNoPart, dNeg, dPenC, dPenA, dPenL, dPutA, dPutL, dgFld, dNew, dMet, dLstM, dFrz, dApp, dgIx, dAug, startD, List.map_cons, List.map_nil, List.length_cons, List.length_nil, List.replicate, Nat.reduceAdd, Nat.reduceSub, List.cons_append, List.nil_append, List.append_nil, List.set_cons_zero, List.set_cons_succ, List.getElem?_cons_zero, List.getElem?_cons_succ, dFld_eq, gIx0, gIx1, gIx2, gIx3, gIx4, lIx0, lIx1, lIx2, true_and, Nat.reduceLeDiff]
    exact ⟨rows, r, c, rfl, hg, hr, hc, h⟩
theorem p__law_given (ds : List D) (n : NS) (q : D → NS → Prop) (e : DY) (hl : ds.length = 3) (h : s__law_given A ds n q e) : t__law_given K A cs { nx := fun _ n' => q .non n', rt := q, ex := fun _ => e } (startD N__law_given ds) n := by
  obtain ⟨rows, r, c, rfl, hg, hr, hc, h⟩ := h
  have main : ∀ d w : Int, d = (if rows.length = 1 then 1 else r) → w = (if wdt rows = 1 then 1 else c) → u__law_given_3 K A cs { nx := fun _ n' => q .non n', rt := q, ex := fun _ => e } [some (.lst (lRows rows)), some (.int r), some (.int c), some (.int d), some (.int w)] n := fun d w hd hw => by
    have d1 : 1 ≤ d := by rw [hd]; split <;> omega
    have w1 : 1 ≤ w := by rw [hw]; split <;> omega
    unfold K43.giv at h
    rw [← hd, ← hw] at h
    unfold u__law_given_3
    simp only [dSeq, dNext, dIfS, dTest, dOp, dVar, dC, dRet, dRetN, dGet, dAnd, dOr, dNot, dAndV, dOrV, dNotV, dIf, dNil, dCons, dTup, dLst, dCB, dM0, dM1, dDrop, dAsg, dgName, dPar, dCal, dChain, dRaise, dRaise2, dFor, diSeq, items, diRange1, diRange2, dLc, dYes, dgTup, dgCons, dgNil, dSl, dPart, dNoPart, dNeg, dPenC, dPenA, dPenL, dPutA, dPutL, dgFld, dNew, dMet, dLstM, dFrz, dApp, dgIx, dAug, startD, List.map_cons, List.map_nil, List.length_cons, List.length_nil, List.replicate, Nat.reduceAdd, Nat.reduceSub, List.cons_append, List.nil_append, List.append_nil, List.set_cons_zero, List.set_cons_succ, List.getElem?_cons_zero, List.getElem?_cons_succ, dFld_eq, gIx0, gIx1, gIx2, gIx3, gIx4, lIx0, lIx1, lIx2, true_and, Nat.reduceLeDiff, gLen, List.length_map, gLe, gOrd, g_Fault_new0, ix0 D.lst hg.ne]
    rw [show (rows.headD []).length = wdt rows from rfl]
    by_cases z1 : d ≤ (rows.length : Int)
    · simp only [z1, decide_true]
      by_cases z2 : w ≤ (wdt rows : Int)
      · rw [if_neg (by omega)] at h
        simp only [z2, decide_true, DL.gSub, gI0, gIx]
        refine ⟨_, atR (f := D.lst) (by omega) (by omega), ?_⟩
        have e1 := hg.wd _ (row_mem (rows := rows) (i := (d - 1).toNat) (by omega))
        exact ⟨_, atV (by omega) (by rw [e1]; omega), h⟩
      · rw [if_pos (.inr (by omega))] at h
        simp only [z2, decide_false]
        exact flt_na h
    · rw [if_pos (.inl (by omega))] at h
      simp only [z1, decide_false]
      exact flt_na h
  have two : ∀ d : Int, d = (if rows.length = 1 then 1 else r) → u__law_given_2 K A cs { nx := fun _ n' => q .non n', rt := q, ex := fun _ => e } [some (.lst (lRows rows)), some (.int r), some (.int c), some (.int d), none] n := fun d hd => by
    unfold u__law_given_2
    simp only [dSeq, dNext, dIfS, dTest, dOp, dVar, dC, dRet, dRetN, dGet, dAnd, dOr, dNot, dAndV, dOrV, dNotV, dIf, dNil, dCons, dTup, dLst, dCB, dM0, dM1, dDrop, dAsg, dgName, dPar, dCal, dChain, dRaise, dRaise2, dFor, diSeq, items, diRange1, diRange2, dLc, dYes, dgTup, dgCons, dgNil, dSl, dPart, dNoPart, dNeg, dPenC, dPenA, dPenL, dPutA, dPutL, dgFld, dNew, dMet, dLstM, dFrz, dApp, dgIx, dAug, startD, List.map_cons, List.map_nil, List.length_cons, List.length_nil, List.replicate, Nat.reduceAdd, Nat.reduceSub, List.cons_append, List.nil_append, List.append_nil, List.set_cons_zero, List.set_cons_succ, List.getElem?_cons_zero, List.getElem?_cons_succ, dFld_eq, gIx0, gIx1, gIx2, gIx3, gIx4, lIx0, lIx1, lIx2, true_and, Nat.reduceLeDiff, ix0 D.lst hg.ne, gLen, gEq, eqD, scEq]
    rw [show (rows.headD []).length = wdt rows from rfl]
    by_cases z : (wdt rows : Int) = 1
    · simp only [z, decide_true]
      exact main _ _ hd (by rw [if_pos (by omega)])
    · simp only [z, decide_false]
      exact main _ _ hd (by rw [if_neg (by omega)])
  unfold t__law_given
  simp only [dSeq, dNext, dIfS, dTest, dOp, dVar, dC, dRet, dRetN, dGet, dAnd, dOr, dNot, dAndV, dOrV, dNotV, dIf, dNil, dCons, dTup, dLst, dCB, dM0, dM1, dDrop, dAsg, dgName, dPar, dCal, dChain, dRaise, dRaise2, dFor, diSeq, items, diRange1, diRange2, dLc, dYes, dgTup, dgCons, dgNil, dSl, dPart, dNoPart, dNeg, dPenC, dPenA, dPenL, dPutA, dPutL, dgFld, dNew, dMet, dLstM, dFrz, dApp, dgIx, dAug, startD, List.map_cons, List.map_nil, List.length_cons, List.length_nil, List.replicate, Nat.reduceAdd, Nat.reduceSub, List.cons_append, List.nil_append, List.append_nil, List.set_cons_zero, List.set_cons_succ, List.getElem?_cons_zero, List.getElem?_cons_succ, dFld_eq, gIx0, gIx1, gIx2, gIx3, gIx4, lIx0, lIx1, lIx2, true_and, Nat.reduceLeDiff, gLen, List.length_map, gEq, eqD, scEq]
  by_cases z : (rows.length : Int) = 1
  · simp only [z, decide_true]
    exact two _ (by rw [if_pos (by omega)])
  · simp only [z, decide_false]
    exact two _ (by rw [if_neg (by omega)])
theorem p__law_same (T : Txt P K mg A) (ds : List D) (n : NS) (q : D → NS → Prop) (e : DY) (hl : ds.length = 2) (h : s__law_same A ds n q e) : t__law_same K A cs { nx := fun _ n' => q .non n', rt := q, ex := fun _ => e } (startD N__law_same ds) n := by
  obtain ⟨x, rfl, hv, h⟩ := h
  have two : ∀ b : Bool, gEqS (RF A) (.bl b) (.bl b) n fun z n1 => match z with
      | D.bl true => gEqS (RF A) x x n1 fun d n' => q d n'
      | D.bl false => q (D.bl false) n1
      | x => False := fun b => by
    show (match D.bl (decide (b = b)) with
      | D.bl true => gEqS (RF A) x x n fun d n' => q d n'
      | D.bl false => q (D.bl false) n
      | x => False)
    rw [decide_eq_true rfl]
    exact eq_val hv h
  have bf : ∀ {C : Addr} {ns : List Str} {xs : List D} {b : Bool} {k : Bool → Prop}, InsC K C → PySem.W.kitOne K (.ref C) (.type "bool") = some b → k b → isiD K (.ins C ns xs) (.ty "bool") k := fun i hk h => ⟨_, _, _, .inr ⟨_, _, _, rfl, rfl, i⟩, rfl, hk, h⟩
  unfold t__law_same
  simp only [dSeq, dNext, dIfS, dTest, dOp, dVar, dC, dRet, dRetN, dGet, dAnd, dOr, dNot, dAndV, dOrV, dNotV, dIf, dNil, dCons, dTup, dLst, dCB, dM0, dM1, dDrop, dAsg, dgName, dPar, dCal, dChain, dRaise, dRaise2, dFor, diSeq, items, diRange1, diRange2, dLc, dYes, dgTup, dgCons, dgNil, dSl, dPart, dNoPart, dNeg, dPenC, dPenA, dPenL, dPutA, dPutL, dgFld, dNew, dMet, dLstM, dFrz, dApp, dgIx, dAug, startD, List.map_cons, List.map_nil, List.length_cons, List.length_nil, List.replicate, Nat.reduceAdd, Nat.reduceSub, List.cons_append, List.nil_append, List.append_nil, List.set_cons_zero, List.set_cons_succ, List.getElem?_cons_zero, List.getElem?_cons_succ, dFld_eq, gIx0, gIx1, gIx2, gIx3, gIx4, lIx0, lIx1, lIx2, true_and, Nat.reduceLeDiff, gIsi]
  cases hv with
  | non => simp only [isiD, kindD, kit_int_int, kit_int_bool, kit_int_str, kit_int_list, kit_int_tuple, kit_bool_int, kit_bool_bool, kit_bool_str, kit_bool_list, kit_bool_tuple, kit_str_int, kit_str_bool, kit_str_str, kit_str_list, kit_str_tuple, kit_non_int, kit_non_bool, kit_non_str, kit_non_list, kit_non_tuple, kit_list_int, kit_list_bool, kit_list_str, kit_list_list, kit_list_tuple, kit_tuple_int, kit_tuple_bool, kit_tuple_str, kit_tuple_list, kit_tuple_tuple]; exact two _
  | bl b => simp only [isiD, kindD, kit_int_int, kit_int_bool, kit_int_str, kit_int_list, kit_int_tuple, kit_bool_int, kit_bool_bool, kit_bool_str, kit_bool_list, kit_bool_tuple, kit_str_int, kit_str_bool, kit_str_str, kit_str_list, kit_str_tuple, kit_non_int, kit_non_bool, kit_non_str, kit_non_list, kit_non_tuple, kit_list_int, kit_list_bool, kit_list_str, kit_list_list, kit_list_tuple, kit_tuple_int, kit_tuple_bool, kit_tuple_str, kit_tuple_list, kit_tuple_tuple]; exact two _
  | str l hx => simp only [isiD, kindD, kit_int_int, kit_int_bool, kit_int_str, kit_int_list, kit_int_tuple, kit_bool_int, kit_bool_bool, kit_bool_str, kit_bool_list, kit_bool_tuple, kit_str_int, kit_str_bool, kit_str_str, kit_str_list, kit_str_tuple, kit_non_int, kit_non_bool, kit_non_str, kit_non_list, kit_non_tuple, kit_list_int, kit_list_bool, kit_list_str, kit_list_list, kit_list_tuple, kit_tuple_int, kit_tuple_bool, kit_tuple_str, kit_tuple_list, kit_tuple_tuple]; exact two _
  | rat t b => exact bf T.i_Ratio T.k_Ratio_bool (bf T.i_Ratio T.k_Ratio_bool (two _))
  | flt l => exact bf T.i_Fault T.k_Fault_bool (bf T.i_Fault T.k_Fault_bool (two _))
end
end K43

set_option Elab.async false
set_option linter.all false
set_option maxRecDepth 100000
set_option maxHeartbeats 8000000
set_option autoImplicit false
/-! k43: values and rows that are drawn. -/
namespace K43
open PySem PySem.Spec PyProof.Rows L2 DL
/-- a comprehension whose items draw -/
theorem lc_dr {g : DTG} {te : DTE} {vs : List Nat} {δ : DEnv} {μ : Addr → Option MO} {Q : List D → NS → Prop} {Good : D → Prop} {c T : Nat} : ∀ (L acc : List D) (t : Nat), acc.length + L.length ≤ 100000 → t + c * L.length ≤ T →
    (∀ d ∈ L, ∀ m t (q : D → NS → Prop), Mle μ m → t + c ≤ T → (∀ y t', Good y → t ≤ t' → t' ≤ t + c → q y ⟨t', m⟩) → g d (wipeD δ vs) ⟨t, m⟩ fun δ2 n0 => te δ2 n0 q noX) →
    (∀ ys t', ys.length = L.length → (∀ y ∈ ys, Good y) → t ≤ t' → t' ≤ t + c * L.length → Q (acc ++ ys) ⟨t', μ⟩) → dLcL g dYes te vs L acc δ ⟨t, μ⟩ Q
  | [], acc, t, _, _, _, h => by
    have := h [] t rfl (fun y hy => by cases hy) (Nat.le_refl _) (by simp)
    rw [List.append_nil] at this
    exact this
  | d :: L, acc, t, hl, hT, hs, h => by
    rw [List.length_cons] at hl hT
    rw [Nat.mul_succ] at hT
    refine ⟨by omega, fun m hm => hs d List.mem_cons_self m t _ hm (by omega) fun y t1 hy h1 h2 => ⟨rfl, ?_⟩⟩
    refine lc_dr L (acc ++ [y]) t1 (by rw [List.length_append]; simp; omega) (by omega) (fun d' hd => hs d' (List.mem_cons_of_mem _ hd)) fun ys t2 hy2 hg h3 h4 => ?_
    rw [List.append_assoc]
    refine h (y :: ys) t2 (by simp [hy2]) (fun z hz => ?_) (by omega) (by rw [List.length_cons, Nat.mul_succ]; omega)
    rcases List.mem_cons.mp hz with rfl | hz
    · exact hy
    · exact hg z hz
theorem lists_of {α : Type} {f : α → D} {p : α → Prop} : ∀ ys : List D, (∀ y ∈ ys, ∃ r, y = f r ∧ p r) → ∃ rows : List α, ys = rows.map f ∧ ∀ r ∈ rows, p r
  | [], _ => ⟨[], rfl, fun r h => by cases h⟩
  | y :: ys, h => by
    obtain ⟨r, rfl, hr⟩ := h y List.mem_cons_self
    obtain ⟨rows, rfl, hs⟩ := lists_of ys fun z hz => h z (List.mem_cons_of_mem _ hz)
    refine ⟨r :: rows, rfl, fun z hz => ?_⟩
    rcases List.mem_cons.mp hz with rfl | hz
    · exact hr
    · exact hs z hz
section
variable {P : Program} {K : PySem.W.Frag} {mg : Str → Option Value} {A : Ad} {cs : List Int}
theorem mk_rat {t b : Int} {n : NS} {q : D → NS → Prop} {e : DY} (hb : b ≠ 0) (h1 : -(2 ^ 40) < t ∧ t < 2 ^ 40) (h2 : -(2 ^ 40) < b ∧ b < 2 ^ 40) (h : q (ratD A (nT t b) (nB t b)) n) : s_Ratio A [.int t, .int b] n q e := ⟨t, b, rfl, hb, sm_small h1, sm_small h2, h⟩
theorem p__law_value (ds : List D) (n : NS) (q : D → NS → Prop) (e : DY) (hl : ds.length = 1) (h : s__law_value A ds n q e) : t__law_value K A cs { nx := fun _ n' => q .non n', rt := q, ex := fun _ => e } (startD N__law_value ds) n := by
  obtain ⟨t0, μ⟩ := n
  obtain ⟨rfl, hn, h⟩ := h
  simp only [lim] at hn h
  unfold t__law_value
  simp only [dSeq, dNext, dIfS, dTest, dOp, dVar, dC, dRet, dRetN, dGet, dAnd, dOr, dNot, dAndV, dOrV, dNotV, dIf, dNil, dCons, dTup, dLst, dCB, dM0, dM1, dDrop, dAsg, dgName, dPar, dCal, dChain, dRaise, dRaise2, dFor, diSeq, items, diRange1, diRange2, dLc, dYes, dgTup, dgCons, dgNil, dSl, dPart, dNoPart, dNeg, dPenC, dPenA, dPenL, dPutA, dPutL, dgFld, dNew, dMet, dLstM, dFrz, dApp, dgIx, dAug, startD, List.map_cons, List.map_nil, List.length_cons, List.length_nil, List.replicate, Nat.reduceAdd, Nat.reduceSub, List.cons_append, List.nil_append, List.append_nil, List.set_cons_zero, List.set_cons_succ, List.getElem?_cons_zero, List.getElem?_cons_succ, dFld_eq, gIx0, gIx1, gIx2, gIx3, gIx4, lIx0, lIx1, lIx2, true_and, Nat.reduceLeDiff, DL.gSub, gI0, gAdd, g_Ratio_new1]
  refine ⟨2001, rfl, by decide, by decide, by unfold lim; simp only; omega, fun a t a0 a1 t1 t2 => ⟨9, rfl, by decide, by decide, by unfold lim; simp only at t1 t2 ⊢; omega, fun b u b0 b1 u1 u2 => ?_⟩⟩
  simp only at t1 t2 u1 u2
  refine mk_rat (by omega) (by omega) (by omega) ?_
  unfold u__law_value_2
  simp only [dSeq, dNext, dIfS, dTest, dOp, dVar, dC, dRet, dRetN, dGet, dAnd, dOr, dNot, dAndV, dOrV, dNotV, dIf, dNil, dCons, dTup, dLst, dCB, dM0, dM1, dDrop, dAsg, dgName, dPar, dCal, dChain, dRaise, dRaise2, dFor, diSeq, items, diRange1, diRange2, dLc, dYes, dgTup, dgCons, dgNil, dSl, dPart, dNoPart, dNeg, dPenC, dPenA, dPenL, dPutA, dPutL, dgFld, dNew, dMet, dLstM, dFrz, dApp, dgIx, dAug, startD, List.map_cons, List.map_nil, List.length_cons, List.length_nil, List.replicate, Nat.reduceAdd, Nat.reduceSub, List.cons_append, List.nil_append, List.append_nil, List.set_cons_zero, List.set_cons_succ, List.getElem?_cons_zero, List.getElem?_cons_succ, dFld_eq, gIx0, gIx1, gIx2, gIx3, gIx4, lIx0, lIx1, lIx2, true_and, Nat.reduceLeDiff, gAdd, gEq, eqD, scEq, g_Fault_new0]
  refine ⟨9, rfl, by decide, by decide, by unfold lim; simp only; omega, fun c v c0 c1 v1 v2 => ?_⟩
  simp only at v1 v2
  have hs : ∃ l, TX (120 :: l) ∧ l.length ≤ 900 ∧ ∀ (n : NS) (q : D → NS → Prop), q (.str l) n → gStr [.int c] n q := by
    have : c = 0 ∨ c = 1 ∨ c = 2 ∨ c = 3 ∨ c = 4 ∨ c = 5 ∨ c = 6 ∨ c = 7 ∨ c = 8 := by omega
    have tx : ∀ z : Nat, 48 ≤ z → z ≤ 57 → TX [120, z] := fun z h1 h2 => ⟨by simp, fun y hy => by
      simp only [List.mem_cons, List.not_mem_nil, or_false] at hy
      omega⟩
    rcases this with rfl | rfl | rfl | rfl | rfl | rfl | rfl | rfl | rfl
    · exact ⟨[48], tx _ (by decide) (by decide), by simp, fun n q h => ⟨by decide +kernel, by rw [show decI 0 = [48] by decide +kernel]; exact h⟩⟩
    · exact ⟨[49], tx _ (by decide) (by decide), by simp, fun n q h => ⟨by decide +kernel, by rw [show decI 1 = [49] by decide +kernel]; exact h⟩⟩
    · exact ⟨[50], tx _ (by decide) (by decide), by simp, fun n q h => ⟨by decide +kernel, by rw [show decI 2 = [50] by decide +kernel]; exact h⟩⟩
    · exact ⟨[51], tx _ (by decide) (by decide), by simp, fun n q h => ⟨by decide +kernel, by rw [show decI 3 = [51] by decide +kernel]; exact h⟩⟩
    · exact ⟨[52], tx _ (by decide) (by decide), by simp, fun n q h => ⟨by decide +kernel, by rw [show decI 4 = [52] by decide +kernel]; exact h⟩⟩
    · exact ⟨[53], tx _ (by decide) (by decide), by simp, fun n q h => ⟨by decide +kernel, by rw [show decI 5 = [53] by decide +kernel]; exact h⟩⟩
    · exact ⟨[54], tx _ (by decide) (by decide), by simp, fun n q h => ⟨by decide +kernel, by rw [show decI 6 = [54] by decide +kernel]; exact h⟩⟩
    · exact ⟨[55], tx _ (by decide) (by decide), by simp, fun n q h => ⟨by decide +kernel, by rw [show decI 7 = [55] by decide +kernel]; exact h⟩⟩
    · exact ⟨[56], tx _ (by decide) (by decide), by simp, fun n q h => ⟨by decide +kernel, by rw [show decI 8 = [56] by decide +kernel]; exact h⟩⟩
  obtain ⟨l, tl, ll, hs⟩ := hs
  refine hs _ _ ?_
  simp only [List.length_cons, List.length_nil, List.cons_append, List.nil_append]
  refine ⟨by omega, 2, rfl, by decide, by decide, by unfold lim; simp only; omega, fun d w d0 d1 w1 w2 => ?_⟩
  simp only at w1 w2
  refine ⟨_, rfl, .inl rfl, _, rfl, .inr rfl, ?_⟩
  refine ⟨_, rfl, by simp, by simp, by unfold lim; simp only; omega, fun x y hx y1 y2 => ?_⟩
  simp only at y1 y2
  refine h x y ?_ (by omega) (by omega)
  simp only [List.mem_cons, List.not_mem_nil, or_false] at hx
  rcases hx with rfl | rfl | rfl | rfl | rfl | rfl | rfl
  · exact .rat _ _
  · exact .rat _ _
  · exact .str _ tl
  · exact .bl _
  · exact .non
  · exact .flt _
  · exact .flt _
/-- so many rows of so many values -/
def RW (A : Ad) (w : Nat) (y : D) : Prop := ∃ vs : List D, y = .lst vs ∧ vs.length = w ∧ ∀ v ∈ vs, VAL A v
theorem gr_of {h w : Nat} {ys : List D} (h0 : 0 < h) (w0 : 0 < w) (hw : h * w ≤ 10000) (hl : ys.length = h) (hy : ∀ y ∈ ys, RW A w y) : ∃ rows, ys = lRows rows ∧ GR A rows := by
  obtain ⟨rows, rfl, hr⟩ := lists_of (f := D.lst) (p := fun vs => vs.length = w ∧ ∀ v ∈ vs, VAL A v) ys hy
  rw [List.length_map] at hl
  have e : wdt rows = w := by
    cases rows with
    | nil => simp at hl; omega
    | cons r rows => exact (hr r List.mem_cons_self).1
  exact ⟨rows, rfl, by omega, by omega, fun r h => by rw [e]; exact (hr r h).1, by rw [hl, e]; exact hw, fun r h => (hr r h).2⟩
theorem rows_small {h w : Nat} {n0 t : Nat} {μ : Addr → Option MO} {q : D → NS → Prop} {e : DX} {x3 x4 : Option D} (h0 : 0 < h) (h1 : h ≤ 5) (w0 : 0 < w) (w1 : w ≤ 5) (hn : n0 + 200 < 1000000) (t1 : n0 ≤ t) (t2 : t ≤ n0 + 10)
    (H : ∀ rows t, GR A rows → n0 ≤ t → t ≤ n0 + 200 → q (.lst (lRows rows)) ⟨t, μ⟩) :
    u__law_rows_3 K A cs { nx := fun _ n' => q .non n', rt := q, ex := e } [some .pen, some (.int (h : Nat)), some (.int (w : Nat)), none, none] ⟨t, μ⟩ := by
  unfold u__law_rows_3
  simp only [dSeq, dNext, dIfS, dTest, dOp, dVar, dC, dRet, dRetN, dGet, dAnd, dOr, dNot, dAndV, dOrV, dNotV, dIf, dNil, dCons, dTup, dLst, dCB, dM0, dM1, dDrop, dAsg, dgName, dPar, dCal, dChain, dRaise, dRaise2, dFor, diSeq, items, diRange1, diRange2, dLc, dYes, dgTup, dgCons, dgNil, dSl, dPart, dNoPart, dNeg, dPenC, dPenA, dPenL, dPutA, dPutL, dgFld, dNew, dMet, dLstM, dFrz, dApp, dgIx, dAug, startD, List.map_cons, List.map_nil, List.length_cons, List.length_nil, List.replicate, Nat.reduceAdd, Nat.reduceSub, List.cons_append, List.nil_append, List.append_nil, List.set_cons_zero, List.set_cons_succ, List.getElem?_cons_zero, List.getElem?_cons_succ, dFld_eq, gIx0, gIx1, gIx2, gIx3, gIx4, lIx0, lIx1, lIx2, true_and, Nat.reduceLeDiff, Int.toNat_natCast]
  have hm : 5 * w * h ≤ 125 := by
    have := Nat.mul_le_mul w1 h1
    rw [Nat.mul_assoc]
    omega
  have hr : ∀ k : Nat, (rangeD 0 k).length = k := fun k => by simp [rangeD]
  refine ⟨by omega, by omega, ?_⟩
  refine lc_dr (Good := RW A w) (c := 5 * w) (T := n0 + 150) (rangeD 0 h) [] t (by rw [hr]; simp; omega) (by rw [hr]; omega) (fun d hd m t q' hM hT hq => ?_) fun ys t' hy hg h2 h3 => ?_
  · simp only [wipeD, dSeq, dNext, dIfS, dTest, dOp, dVar, dC, dRet, dRetN, dGet, dAnd, dOr, dNot, dAndV, dOrV, dNotV, dIf, dNil, dCons, dTup, dLst, dCB, dM0, dM1, dDrop, dAsg, dgName, dPar, dCal, dChain, dRaise, dRaise2, dFor, diSeq, items, diRange1, diRange2, dLc, dYes, dgTup, dgCons, dgNil, dSl, dPart, dNoPart, dNeg, dPenC, dPenA, dPenL, dPutA, dPutL, dgFld, dNew, dMet, dLstM, dFrz, dApp, dgIx, dAug, startD, List.map_cons, List.map_nil, List.length_cons, List.length_nil, List.replicate, Nat.reduceAdd, Nat.reduceSub, List.cons_append, List.nil_append, List.append_nil, List.set_cons_zero, List.set_cons_succ, List.getElem?_cons_zero, List.getElem?_cons_succ, dFld_eq, gIx0, gIx1, gIx2, gIx3, gIx4, lIx0, lIx1, lIx2, true_and, Nat.reduceLeDiff, Int.toNat_natCast]
    refine ⟨by omega, by omega, ?_⟩
    refine lc_dr (Good := VAL A) (c := 5) (T := n0 + 150) (rangeD 0 w) [] t (by rw [hr]; simp; omega) (by rw [hr]; omega) (fun d2 hd2 m2 t2 q2 hM2 hT2 hq2 => ?_) fun ys t' hy hg h2 h3 => ?_
    · simp only [wipeD, dSeq, dNext, dIfS, dTest, dOp, dVar, dC, dRet, dRetN, dGet, dAnd, dOr, dNot, dAndV, dOrV, dNotV, dIf, dNil, dCons, dTup, dLst, dCB, dM0, dM1, dDrop, dAsg, dgName, dPar, dCal, dChain, dRaise, dRaise2, dFor, diSeq, items, diRange1, diRange2, dLc, dYes, dgTup, dgCons, dgNil, dSl, dPart, dNoPart, dNeg, dPenC, dPenA, dPenL, dPutA, dPutL, dgFld, dNew, dMet, dLstM, dFrz, dApp, dgIx, dAug, startD, List.map_cons, List.map_nil, List.length_cons, List.length_nil, List.replicate, Nat.reduceAdd, Nat.reduceSub, List.cons_append, List.nil_append, List.append_nil, List.set_cons_zero, List.set_cons_succ, List.getElem?_cons_zero, List.getElem?_cons_succ, dFld_eq, gIx0, gIx1, gIx2, gIx3, gIx4, lIx0, lIx1, lIx2, true_and, Nat.reduceLeDiff]
      exact ⟨rfl, by unfold lim; simp only; omega, fun v t3 hv h4 h5 => hq2 v t3 hv h4 h5⟩
    · rw [hr] at hy h3
      exact hq _ _ ⟨ys, rfl, hy, hg⟩ h2 (by omega)
  · rw [hr] at hy h3
    obtain ⟨rows, e1, hG⟩ := gr_of h0 w0 (by have := Nat.mul_le_mul h1 w1; omega) hy hg
    rw [List.nil_append, e1]
    exact H rows t' hG (by omega) (by omega)
/-- the wide rows -/
def wideR (A : Ad) (h w : Nat) : List (List D) := (List.range h).map fun (i : Nat) => (List.range w).map fun (j : Nat) => ratD A (nT ((i : Int) * (w : Int) + (j : Int)) 1) (nB ((i : Int) * (w : Int) + (j : Int)) 1)
theorem gr_wide {h w : Nat} (h0 : 0 < h) (w0 : 0 < w) (hw : h * w ≤ 10000) : GR A (wideR A h w) := by
  have e : ∀ r ∈ wideR A h w, r.length = w ∧ ∀ v ∈ r, VAL A v := fun r hr => by
    obtain ⟨i, _, rfl⟩ := List.mem_map.mp hr
    refine ⟨by simp, fun v hv => ?_⟩
    obtain ⟨j, _, rfl⟩ := List.mem_map.mp hv
    exact .rat _ _
  have hl : (wideR A h w).length = h := by simp [wideR]
  have hd : wdt (wideR A h w) = w := by
    cases hx : wideR A h w with
    | nil => rw [hx] at hl; simp at hl; omega
    | cons r rs => exact (e r (by rw [hx]; exact List.mem_cons_self)).1
  exact ⟨by omega, by omega, fun r hr => by rw [hd]; exact (e r hr).1, by rw [hl, hd]; exact hw, fun r hr => (e r hr).2⟩
end
end K43

set_option Elab.async false
set_option linter.all false
set_option maxRecDepth 100000
set_option maxHeartbeats 8000000
set_option autoImplicit false
/-! k43: rows; what is refused. -/
namespace K43
open PySem PySem.Spec PyProof.Rows L2 DL
section
variable {P : Program} {K : PySem.W.Frag} {mg : Str → Option Value} {A : Ad} {cs : List Int}
theorem wide_ok {h w : Nat} {n : NS} {q : D → NS → Prop} {ex : DX} {x0 : Option D} (h0 : h ≤ 10000) (w0 : w ≤ 10000) (hq : q (.lst (lRows (wideR A h w))) n) :
    dLc (diRange1 (dCons (dVar 1) dNil)) (dgName 4) dYes (dLc (diRange1 (dCons (dVar 2) dNil)) (dgName 3) dYes (dNew 1 [] g_Ratio_new2 (s_Ratio A) (dCons (dOp gAdd (dOp gMul (dVar 4) (dVar 2)) (dVar 3)) dNil) dNil) [3]) [4] [x0, some (.int (h : Nat)), some (.int (w : Nat)), none, none] n q ex := by
  simp only [dSeq, dNext, dIfS, dTest, dOp, dVar, dC, dRet, dRetN, dGet, dAnd, dOr, dNot, dAndV, dOrV, dNotV, dIf, dNil, dCons, dTup, dLst, dCB, dM0, dM1, dDrop, dAsg, dgName, dPar, dCal, dChain, dRaise, dRaise2, dFor, diSeq, items, diRange1, diRange2, dLc, dYes, dgTup, dgCons, dgNil, dSl, dPart, dNoPart, dNeg, dPenC, dPenA, dPenL, dPutA, dPutL, dgFld, dNew, dMet, dLstM, dFrz, dApp, dgIx, dAug, startD, List.map_cons, List.map_nil, List.length_cons, List.length_nil, List.replicate, Nat.reduceAdd, Nat.reduceSub, List.cons_append, List.nil_append, List.append_nil, List.set_cons_zero, List.set_cons_succ, List.getElem?_cons_zero, List.getElem?_cons_succ, dFld_eq, gIx0, gIx1, gIx2, gIx3, gIx4, lIx0, lIx1, lIx2, true_and, Nat.reduceLeDiff, Int.toNat_natCast]
  refine ⟨by omega, by omega, ?_⟩
  refine lc_ok (b := fun (i : Nat) => .lst ((List.range w).map fun (j : Nat) => ratD A (nT ((i : Int) * (w : Int) + (j : Int)) 1) (nB ((i : Int) * (w : Int) + (j : Int)) 1))) (List.range h) [] (by simp; omega) (fun i hi m q' _ h' => ?_) ?_
  · have hi := List.mem_range.mp hi
    simp only [wipeD, dSeq, dNext, dIfS, dTest, dOp, dVar, dC, dRet, dRetN, dGet, dAnd, dOr, dNot, dAndV, dOrV, dNotV, dIf, dNil, dCons, dTup, dLst, dCB, dM0, dM1, dDrop, dAsg, dgName, dPar, dCal, dChain, dRaise, dRaise2, dFor, diSeq, items, diRange1, diRange2, dLc, dYes, dgTup, dgCons, dgNil, dSl, dPart, dNoPart, dNeg, dPenC, dPenA, dPenL, dPutA, dPutL, dgFld, dNew, dMet, dLstM, dFrz, dApp, dgIx, dAug, startD, List.map_cons, List.map_nil, List.length_cons, List.length_nil, List.replicate, Nat.reduceAdd, Nat.reduceSub, List.cons_append, List.nil_append, List.append_nil, List.set_cons_zero, List.set_cons_succ, List.getElem?_cons_zero, List.getElem?_cons_succ, dFld_eq, gIx0, gIx1, gIx2, gIx3, gIx4, lIx0, lIx1, lIx2, true_and, Nat.reduceLeDiff, Int.toNat_natCast, Int.zero_add]
    refine ⟨by omega, by omega, ?_⟩
    refine lc_ok (b := fun (j : Nat) => ratD A (nT ((i : Int) * (w : Int) + (j : Int)) 1) (nB ((i : Int) * (w : Int) + (j : Int)) 1)) (List.range w) [] (by simp; omega) (fun j hj m2 q2 _ h2 => ?_) ?_
    · have hj := List.mem_range.mp hj
      simp only [wipeD, dSeq, dNext, dIfS, dTest, dOp, dVar, dC, dRet, dRetN, dGet, dAnd, dOr, dNot, dAndV, dOrV, dNotV, dIf, dNil, dCons, dTup, dLst, dCB, dM0, dM1, dDrop, dAsg, dgName, dPar, dCal, dChain, dRaise, dRaise2, dFor, diSeq, items, diRange1, diRange2, dLc, dYes, dgTup, dgCons, dgNil, dSl, dPart, dNoPart, dNeg, dPenC, dPenA, dPenL, dPutA, dPutL, dgFld, dNew, dMet, dLstM, dFrz, dApp, dgIx, dAug, startD, List.map_cons, List.map_nil, List.length_cons, List.length_nil, List.replicate, Nat.reduceAdd, Nat.reduceSub, List.cons_append, List.nil_append, List.append_nil, List.set_cons_zero, List.set_cons_succ, List.getElem?_cons_zero, List.getElem?_cons_succ, dFld_eq, gIx0, gIx1, gIx2, gIx3, gIx4, lIx0, lIx1, lIx2, true_and, Nat.reduceLeDiff, Int.zero_add, gMul, gI, gAdd, g_Ratio_new2]
      have k1 : i * w ≤ 10000 * 10000 := Nat.mul_le_mul (by omega) w0
      have k2 : (i : Int) * (w : Int) = ((i * w : Nat) : Int) := by rw [Int.natCast_mul]
      refine ⟨mul_l (by omega), ?_⟩
      exact mk_rat (by decide) (by rw [k2]; omega) (by decide) h2
    · exact h'
  · rw [List.nil_append]
    rw [show (List.range h).map (fun (i : Nat) => D.lst ((List.range w).map fun (j : Nat) => ratD A (nT ((i : Int) * (w : Int) + (j : Int)) 1) (nB ((i : Int) * (w : Int) + (j : Int)) 1))) = lRows (wideR A h w) by simp [lRows, wideR]]
    exact hq
theorem p__law_rows (ds : List D) (n : NS) (q : D → NS → Prop) (e : DY) (hl : ds.length = 1) (h : s__law_rows A ds n q e) : t__law_rows K A cs { nx := fun _ n' => q .non n', rt := q, ex := fun _ => e } (startD N__law_rows ds) n := by
  obtain ⟨t0, μ⟩ := n
  obtain ⟨rfl, hn, h⟩ := h
  simp only [lim] at hn h
  have one : ∀ (k : Int) (x : D), 0 ≤ k → k < 5 → x ∈ [D.int 1, .int 1, .int (1 + k)] → ∃ z : Nat, x = .int (z : Nat) ∧ 0 < z ∧ z ≤ 5 := fun k x k0 k1 hx => by
    simp only [List.mem_cons, List.not_mem_nil, or_false] at hx
    rcases hx with rfl | rfl | rfl
    · exact ⟨1, rfl, by decide, by decide⟩
    · exact ⟨1, rfl, by decide, by decide⟩
    · exact ⟨(1 + k).toNat, by rw [Int.toNat_of_nonneg (by omega)], by omega, by omega⟩
  unfold t__law_rows
  simp only [dSeq, dNext, dIfS, dTest, dOp, dVar, dC, dRet, dRetN, dGet, dAnd, dOr, dNot, dAndV, dOrV, dNotV, dIf, dNil, dCons, dTup, dLst, dCB, dM0, dM1, dDrop, dAsg, dgName, dPar, dCal, dChain, dRaise, dRaise2, dFor, diSeq, items, diRange1, diRange2, dLc, dYes, dgTup, dgCons, dgNil, dSl, dPart, dNoPart, dNeg, dPenC, dPenA, dPenL, dPutA, dPutL, dgFld, dNew, dMet, dLstM, dFrz, dApp, dgIx, dAug, startD, List.map_cons, List.map_nil, List.length_cons, List.length_nil, List.replicate, Nat.reduceAdd, Nat.reduceSub, List.cons_append, List.nil_append, List.append_nil, List.set_cons_zero, List.set_cons_succ, List.getElem?_cons_zero, List.getElem?_cons_succ, dFld_eq, gIx0, gIx1, gIx2, gIx3, gIx4, lIx0, lIx1, lIx2, true_and, Nat.reduceLeDiff, gAdd]
  refine ⟨5, rfl, by decide, by decide, by unfold lim; simp only; omega, fun a t a0 a1 t1 t2 => ⟨_, rfl, by simp, by simp, by unfold lim; simp only at t1 t2 ⊢; omega, fun x u hx u1 u2 => ?_⟩⟩
  simp only at t1 t2 u1 u2
  obtain ⟨h1, rfl, h10, h11⟩ := one a x a0 a1 hx
  refine ⟨5, rfl, by decide, by decide, by unfold lim; simp only; omega, fun b v b0 b1 v1 v2 => ⟨_, rfl, by simp, by simp, by unfold lim; simp only at v1 v2 ⊢; omega, fun y w hy w1 w2 => ?_⟩⟩
  simp only at v1 v2 w1 w2
  obtain ⟨h2, rfl, h20, h21⟩ := one b y b0 b1 hy
  unfold u__law_rows_2
  simp only [dSeq, dIfS, dTest, dOp, dCal, dCons, dNil, dVar, dGet, dC, List.getElem?_cons_zero, List.getElem?_cons_succ, List.length_cons, List.length_nil, Nat.reduceAdd, true_and]
  refine ⟨40, rfl, by decide, by decide, by unfold lim; simp only; omega, fun c z c0 c1 z1 z2 => ?_⟩
  simp only at z1 z2
  simp only [gEq, eqD, scEq]
  by_cases e0 : c = 0
  · simp only [e0, decide_true, dAsg, dCal, dCons, dNil, dLst, dTup, dC, dVar, dGet, List.getElem?_cons_zero, List.length_cons, List.length_nil, Nat.reduceAdd, Nat.reduceLeDiff, true_and]
    refine ⟨_, rfl, by simp, by simp, by unfold lim; simp only; omega, fun y w hy w1 w2 => ?_⟩
    simp only at w1 w2
    have fin : ∀ hh ww : Nat, y = .tup [.int (hh : Nat), .int (ww : Nat)] → 0 < hh → 0 < ww → hh * ww ≤ 10000 → hh ≤ 10000 → ww ≤ 10000 → dgTup 2 (dgCons (dgName 1) (dgCons (dgName 2) dgNil)) y [some .pen, some (.int (h1 : Nat)), some (.int (h2 : Nat)), none, none] ⟨w, μ⟩ fun δ' n' => dRet (dLc (diRange1 (dCons (dVar 1) dNil)) (dgName 4) dYes (dLc (diRange1 (dCons (dVar 2) dNil)) (dgName 3) dYes (dNew 1 [] g_Ratio_new2 (s_Ratio A) (dCons (dOp gAdd (dOp gMul (dVar 4) (dVar 2)) (dVar 3)) dNil) dNil) [3]) [4]) { nx := fun δ'' n'' => u__law_rows_3 K A cs { nx := fun _ n' => q .non n', rt := q, ex := fun _ => e } δ'' n'', rt := q, ex := fun _ => e } δ' n' := fun hh ww hy a1 a2 a3 a4 a5 => by
      subst hy
      simp only [dgTup, dgCons, dgName, dgNil, List.length_cons, List.length_nil, List.set_cons_succ, List.set_cons_zero, Nat.reduceAdd, true_and]
      unfold dRet
      exact wide_ok (A := A) (h := hh) (w := ww) (n := ⟨w, μ⟩) (q := q) (x0 := some .pen) a4 a5 (h _ w (gr_wide a1 a2 a3) (by omega) (by omega))
    simp only [List.mem_cons, List.not_mem_nil, or_false] at hy
    rcases hy with rfl | rfl | rfl | rfl
    · exact fin 100 100 rfl (by decide) (by decide) (by decide) (by decide) (by decide)
    · exact fin 1 10000 rfl (by decide) (by decide) (by decide) (by decide) (by decide)
    · exact fin 10000 1 rfl (by decide) (by decide) (by decide) (by decide) (by decide)
    · exact fin 99 3 rfl (by decide) (by decide) (by decide) (by decide) (by decide)
  · simp only [e0, decide_false, dNext]
    exact rows_small (K := K) (cs := cs) (x3 := none) (x4 := none) h10 h11 h20 h21 (by omega) (by omega) (by omega) h
theorem p__law_refused (T : Txt P K mg A) {f c : Addr} {q : Str} {σ : List (Option V)} {δ : List (Option D)} {fb : DTE} {y : D} {n : NS} {qd : D → NS → Prop} (h : s_law_refused A y (fun n' q' y' => fb δ n' q' fun _ => y') n qd) :
    t__law_refused K A f c q σ δ fb { nx := fun _ n' => qd .non n', rt := qd } (startD N__law_refused [.thk f c q σ δ, y]) n := by
  unfold s_law_refused at h
  unfold t__law_refused
  simp only [dSeq, dNext, dIfS, dTest, dOp, dVar, dC, dRet, dRetN, dGet, dAnd, dOr, dNot, dAndV, dOrV, dNotV, dIf, dNil, dCons, dTup, dLst, dCB, dM0, dM1, dDrop, dAsg, dgName, dPar, dCal, dChain, dRaise, dRaise2, dFor, diSeq, items, diRange1, diRange2, dLc, dYes, dgTup, dgCons, dgNil, dSl, dPart, dNoPart, dNeg, dPenC, dPenA, dPenL, dPutA, dPutL, dFld, dgFld, dNew, dMet, dLstM, dFrz, dApp, dgIx, dAug, startD, List.map_cons, List.map_nil, List.length_cons, List.length_nil, List.replicate, Nat.reduceAdd, Nat.reduceSub, List.cons_append, List.nil_append, List.append_nil, List.set_cons_zero, List.set_cons_succ, List.getElem?_cons_zero, List.getElem?_cons_succ, dTry, dAct]
  refine ⟨trivial, _, _, h, fun d n' hq => hq.elim, fun C ns xs n' hy => ?_⟩
  obtain ⟨rfl, rfl, rfl, hs, hq⟩ := hy
  refine ⟨true, T.m_BB, fun _ a dd => ?_, fun z => nomatch z⟩
  simp only [dSeq, dNext, dIfS, dTest, dOp, dVar, dC, dRet, dRetN, dGet, dAnd, dOr, dNot, dAndV, dOrV, dNotV, dIf, dNil, dCons, dTup, dLst, dCB, dM0, dM1, dDrop, dAsg, dgName, dPar, dCal, dChain, dRaise, dRaise2, dFor, diSeq, items, diRange1, diRange2, dLc, dYes, dgTup, dgCons, dgNil, dSl, dPart, dNoPart, dNeg, dPenC, dPenA, dPenL, dPutA, dPutL, dFld, dgFld, dNew, dMet, dLstM, dFrz, dApp, dgIx, dAug, startD, List.map_cons, List.map_nil, List.length_cons, List.length_nil, List.replicate, Nat.reduceAdd, Nat.reduceSub, List.cons_append, List.nil_append, List.append_nil, List.set_cons_zero, List.set_cons_succ, List.getElem?_cons_zero, List.getElem?_cons_succ, dXf, hdOff]
  exact ⟨⟨trivial, trivial, trivial, trivial⟩, y, rfl, hs _ _ hq⟩
end
end K43

set_option Elab.async false
set_option linter.all false
set_option maxRecDepth 100000
set_option maxHeartbeats 8000000
set_option autoImplicit false
/-! k43: what is refused. -/
namespace K43
open PySem PySem.Spec PyProof.Rows L2 DL
section
variable {P : Program} {K : PySem.W.Frag} {mg : Str → Option Value} {A : Ad} {cs : List Int}
/-- a value that is equal to itself -/
def SelfE (A : Ad) (y : D) : Prop := ∀ (n : NS) (q : D → NS → Prop), q (.bl true) n → gEqS [(A.Grid, s_Grid_eq A)] y y n q
theorem rf_bad {y : D} {n : NS} {q : D → NS → Prop} {call : NS → (D → NS → Prop) → DY → Prop} (hs : SelfE A y) (h : ∀ (q' : D → NS → Prop) (z : DY), z A.BadValue ["value"] [y] n → call n q' z) (hq : q (.bl true) n) : s_law_refused A y call n q :=
  h _ _ ⟨rfl, rfl, rfl, hs, hq⟩
theorem self_grid {rows : List (List D)} (h : GR A rows) : SelfE A (gridD A rows) := fun n q hq => ⟨rfl, ⟨s_Grid_eq A, by simp, fun n q e hq => ⟨rows, rfl, h, hq⟩⟩, hq⟩
theorem self_int (i : Int) : SelfE A (.int i) := fun n q hq => by
  show q (.bl (decide (i = i))) n
  rw [decide_eq_true rfl]
  exact hq
theorem self_bl (b : Bool) : SelfE A (.bl b) := fun n q hq => by
  show q (.bl (decide (b = b))) n
  rw [decide_eq_true rfl]
  exact hq
theorem self_str (l : List Nat) : SelfE A (.str l) := fun n q hq => by
  show q (.bl (decide (l = l))) n
  rw [decide_eq_true rfl]
  exact hq
theorem self_non : SelfE A .non := fun n q hq => hq
theorem self_nil : SelfE A (.lst []) := fun n q hq => ⟨rfl, fun d hd => (by cases hd), hq⟩
theorem self_11 : SelfE A (.lst [.lst [.int 1]]) := fun n q hq => ⟨rfl, fun d hd => (by
  obtain rfl := List.mem_singleton.mp hd
  exact fun d hd => (by
    obtain rfl := List.mem_singleton.mp hd
    rfl)), hq⟩
theorem lams2_ok {fr : List (Str × Addr)} {Lm : Nat → Src} {fb : Nat → DTE} {x0 x1 x2 x3 x4 : Option D} {Q : List D → NS → Prop} : ∀ (is : List (Nat × D)) (acc : List D) (n : NS),
    (∀ p ∈ is, p.1 < 7 ∧ ∀ (m : NS) (q : D → NS → Prop), q (.bl true) m → s_law_refused A p.2 (fun n' q' y => fb p.1 [x0, x1, x2, x3, x4, none, none] n' q' fun _ => y) m q) → acc.length + is.length < 100000 → Q (acc ++ List.replicate is.length (.bl true)) n →
    dLcL (dgTup 2 (dgCons (dgName 5) (dgCons (dgName 6) dgNil))) dYes (dToldV2 (s_law_refused A) 7 Lm fr fb [5, 6] (dVar 5) (dVar 6)) [5, 6] (is.map fun p => .tup [.fn (Lm p.1) fr, p.2]) acc [x0, x1, x2, x3, x4, none, none] n Q
  | [], acc, n, _, _, h => by
    simp only [List.map_nil, dLcL]
    simpa using h
  | p :: is, acc, n, hx, hl, h => by
    obtain ⟨h1, h2⟩ := hx p List.mem_cons_self
    rw [List.length_cons] at hl
    simp only [List.map_cons, dLcL]
    refine ⟨by omega, fun m hm => ?_⟩
    simp only [wipeD, dgTup, dgCons, dgName, dgNil, dYes, dToldV2, dVar, dGet, List.length_cons, List.length_nil, List.set_cons_succ, List.set_cons_zero, List.getElem?_cons_succ, List.getElem?_cons_zero]
    refine ⟨trivial, p.1, h1, rfl, h2 _ _ ⟨rfl, ?_⟩⟩
    refine lams2_ok is _ _ (fun z hz => hx z (List.mem_cons_of_mem _ hz)) (by rw [List.length_append, List.length_singleton]; omega) ?_
    rw [List.append_assoc]
    exact h
theorem all_rep (k : Nat) {n : NS} {q : D → NS → Prop} (h : q (.bl true) n) : gAll [.lst (List.replicate k (.bl true))] n q := by
  have e : List.replicate k (D.bl true) = (List.range k).map fun _ => D.bl true := by rw [List.map_const', List.length_range]
  rw [e]
  simp only [gAll, blsD_map (f := fun _ => true), all_true]
  exact h
structure WRG (A : Ad) (x : D) : Prop where
  kg : KG x
  se : SelfE A x
structure PLC (A : Ad) (x : D) : Prop where
  kd : kd x
  bd : badN x
  se : SelfE A x
theorem wrong_f {x : D} (h : x ∈ [D.non, .int 1, .str [65, 49], .lst [.lst [.int 1]], .bl true]) : WRG A x := by
  simp only [List.mem_cons, List.not_mem_nil, or_false] at h
  rcases h with rfl | rfl | rfl | rfl | rfl
  · exact ⟨.inl rfl, self_non⟩
  · exact ⟨.inr (.inr (.inl ⟨_, rfl⟩)), self_int _⟩
  · exact ⟨.inr (.inr (.inr (.inl ⟨_, rfl⟩))), self_str _⟩
  · exact ⟨.inr (.inr (.inr (.inr ⟨_, rfl⟩))), self_11⟩
  · exact ⟨.inr (.inl ⟨_, rfl⟩), self_bl _⟩
theorem bad_int {i : Int} (h : i < 1) : badN (.int i) := fun j e => by cases e; exact h
theorem place_f {x : D} (h : x ∈ [D.int 0, .int (-1), .str [49], .non, .bl true, .int (-(10 ^ Int.toNat 20))]) : PLC A x := by
  simp only [List.mem_cons, List.not_mem_nil, or_false] at h
  rcases h with rfl | rfl | rfl | rfl | rfl | rfl
  · exact ⟨rfl, bad_int (by decide), self_int _⟩
  · exact ⟨rfl, bad_int (by decide), self_int _⟩
  · exact ⟨rfl, fun i e => (by cases e), self_str _⟩
  · exact ⟨rfl, fun i e => (by cases e), self_non⟩
  · exact ⟨rfl, fun i e => (by cases e), self_bl _⟩
  · exact ⟨rfl, bad_int (by decide), self_int _⟩
theorem p__law_are_refused (T : Txt P K mg A) {fr : List (Str × Addr)} {Lm : Nat → Src} (ds : List D) (n : NS) (q : D → NS → Prop) (e : DY) (hl : ds.length = 2) (h : s__law_are_refused A ds n q e) : t__law_are_refused K A cs fr Lm { nx := fun _ n' => q .non n', rt := q, ex := fun _ => e } (startD N__law_are_refused ds) n := by
  obtain ⟨t0, μ⟩ := n
  obtain ⟨rows, rfl, hg, hn, h⟩ := h
  simp only [lim] at hn h
  unfold t__law_are_refused
  simp only [dForg, dSeq, dNext, dIfS, dTest, dOp, dVar, dC, dRet, dRetN, dGet, dAnd, dOr, dNot, dAndV, dOrV, dNotV, dIf, dNil, dCons, dTup, dLst, dCB, dM0, dM1, dDrop, dAsg, dgName, dPar, dCal, dChain, dRaise, dRaise2, dFor, diSeq, items, diRange1, diRange2, dLc, dYes, dgTup, dgCons, dgNil, dSl, dPart, dNoPart, dNeg, dPenC, dPenA, dPenL, dPutA, dPutL, dgFld, dNew, dMet, dLstM, dFrz, dApp, dgIx, dAug, startD, List.map_cons, List.map_nil, List.length_cons, List.length_nil, List.replicate, Nat.reduceAdd, Nat.reduceSub, List.cons_append, List.nil_append, List.append_nil, List.set_cons_zero, List.set_cons_succ, List.getElem?_cons_zero, List.getElem?_cons_succ, dFld_eq, gIx0, gIx1, gIx2, gIx3, gIx4, lIx0, lIx1, lIx2, true_and, Nat.reduceLeDiff, gPow, gI]
  refine ⟨_, rfl, by decide, by decide, by unfold lim; simp only; omega, fun x t hx t1 t2 => ?_⟩
  simp only at t1 t2
  refine ⟨⟨by decide, by decide, by decide⟩, _, rfl, by decide, by decide, by unfold lim; simp only; omega, fun y u hy u1 u2 => ?_⟩
  simp only at u1 u2
  have W := wrong_f (A := A) hx
  have L := place_f (A := A) hy
  unfold u__law_are_refused_2
  simp only [dSeq, dNext, dIfS, dTest, dOp, dVar, dC, dRet, dRetN, dGet, dAnd, dOr, dNot, dAndV, dOrV, dNotV, dIf, dNil, dCons, dTup, dLst, dCB, dM0, dM1, dDrop, dAsg, dgName, dPar, dCal, dChain, dRaise, dRaise2, dFor, diSeq, items, diRange1, diRange2, dLc, dYes, dgTup, dgCons, dgNil, dSl, dPart, dNoPart, dNeg, dPenC, dPenA, dPenL, dPutA, dPutL, dgFld, dNew, dMet, dLstM, dFrz, dApp, dgIx, dAug, startD, List.map_cons, List.map_nil, List.length_cons, List.length_nil, List.replicate, Nat.reduceAdd, Nat.reduceSub, List.cons_append, List.nil_append, List.append_nil, List.set_cons_zero, List.set_cons_succ, List.getElem?_cons_zero, List.getElem?_cons_succ, dFld_eq, gIx0, gIx1, gIx2, gIx3, gIx4, lIx0, lIx1, lIx2, true_and, Nat.reduceLeDiff, dLamV]
  intro p hp
  unfold u__law_are_refused_3
  simp only [dSeq, dNext, dIfS, dTest, dOp, dVar, dC, dRet, dRetN, dGet, dAnd, dOr, dNot, dAndV, dOrV, dNotV, dIf, dNil, dCons, dTup, dLst, dCB, dM0, dM1, dDrop, dAsg, dgName, dPar, dCal, dChain, dRaise, dRaise2, dFor, diSeq, items, diRange1, diRange2, dLc, dYes, dgTup, dgCons, dgNil, dSl, dPart, dNoPart, dNeg, dPenC, dPenA, dPenL, dPutA, dPutL, dgFld, dNew, dMet, dLstM, dFrz, dApp, dgIx, dAug, startD, List.map_cons, List.map_nil, List.length_cons, List.length_nil, List.replicate, Nat.reduceAdd, Nat.reduceSub, List.cons_append, List.nil_append, List.append_nil, List.set_cons_zero, List.set_cons_succ, List.getElem?_cons_zero, List.getElem?_cons_succ, dFld_eq, gIx0, gIx1, gIx2, gIx3, gIx4, lIx0, lIx1, lIx2, true_and, Nat.reduceLeDiff, dLamV]
  refine ⟨p, rfl, ⟨_, mup_same⟩, _, mup_same, by simp, ?_⟩
  unfold u__law_are_refused_4
  simp only [dSeq, dNext, dIfS, dTest, dOp, dVar, dC, dRet, dRetN, dGet, dAnd, dOr, dNot, dAndV, dOrV, dNotV, dIf, dNil, dCons, dTup, dLst, dCB, dM0, dM1, dDrop, dAsg, dgName, dPar, dCal, dChain, dRaise, dRaise2, dFor, diSeq, items, diRange1, diRange2, dLc, dYes, dgTup, dgCons, dgNil, dSl, dPart, dNoPart, dNeg, dPenC, dPenA, dPenL, dPutA, dPutL, dgFld, dNew, dMet, dLstM, dFrz, dApp, dgIx, dAug, startD, List.map_cons, List.map_nil, List.length_cons, List.length_nil, List.replicate, Nat.reduceAdd, Nat.reduceSub, List.cons_append, List.nil_append, List.append_nil, List.set_cons_zero, List.set_cons_succ, List.getElem?_cons_zero, List.getElem?_cons_succ, dFld_eq, gIx0, gIx1, gIx2, gIx3, gIx4, lIx0, lIx1, lIx2, true_and, Nat.reduceLeDiff, dLamV, mup_mup]
  refine ⟨p, rfl, ⟨_, mup_same⟩, _, mup_same, by simp, ?_⟩
  unfold u__law_are_refused_5
  simp only [dSeq, dNext, dIfS, dTest, dOp, dVar, dC, dRet, dRetN, dGet, dAnd, dOr, dNot, dAndV, dOrV, dNotV, dIf, dNil, dCons, dTup, dLst, dCB, dM0, dM1, dDrop, dAsg, dgName, dPar, dCal, dChain, dRaise, dRaise2, dFor, diSeq, items, diRange1, diRange2, dLc, dYes, dgTup, dgCons, dgNil, dSl, dPart, dNoPart, dNeg, dPenC, dPenA, dPenL, dPutA, dPutL, dgFld, dNew, dMet, dLstM, dFrz, dApp, dgIx, dAug, startD, List.map_cons, List.map_nil, List.length_cons, List.length_nil, List.replicate, Nat.reduceAdd, Nat.reduceSub, List.cons_append, List.nil_append, List.append_nil, List.set_cons_zero, List.set_cons_succ, List.getElem?_cons_zero, List.getElem?_cons_succ, dFld_eq, gIx0, gIx1, gIx2, gIx3, gIx4, lIx0, lIx1, lIx2, true_and, Nat.reduceLeDiff, dLamV, mup_mup]
  refine ⟨p, rfl, ⟨_, mup_same⟩, _, mup_same, by simp, ?_⟩
  unfold u__law_are_refused_6
  simp only [dSeq, dNext, dIfS, dTest, dOp, dVar, dC, dRet, dRetN, dGet, dAnd, dOr, dNot, dAndV, dOrV, dNotV, dIf, dNil, dCons, dTup, dLst, dCB, dM0, dM1, dDrop, dAsg, dgName, dPar, dCal, dChain, dRaise, dRaise2, dFor, diSeq, items, diRange1, diRange2, dLc, dYes, dgTup, dgCons, dgNil, dSl, dPart, dNoPart, dNeg, dPenC, dPenA, dPenL, dPutA, dPutL, dgFld, dNew, dMet, dLstM, dFrz, dApp, dgIx, dAug, startD, List.map_cons, List.map_nil, List.length_cons, List.length_nil, List.replicate, Nat.reduceAdd, Nat.reduceSub, List.cons_append, List.nil_append, List.append_nil, List.set_cons_zero, List.set_cons_succ, List.getElem?_cons_zero, List.getElem?_cons_succ, dFld_eq, gIx0, gIx1, gIx2, gIx3, gIx4, lIx0, lIx1, lIx2, true_and, Nat.reduceLeDiff, dLamV, mup_mup]
  refine ⟨p, rfl, ⟨_, mup_same⟩, _, mup_same, by simp, ?_⟩
  unfold u__law_are_refused_7
  simp only [dSeq, dNext, dIfS, dTest, dOp, dVar, dC, dRet, dRetN, dGet, dAnd, dOr, dNot, dAndV, dOrV, dNotV, dIf, dNil, dCons, dTup, dLst, dCB, dM0, dM1, dDrop, dAsg, dgName, dPar, dCal, dChain, dRaise, dRaise2, dFor, diSeq, items, diRange1, diRange2, dLc, dYes, dgTup, dgCons, dgNil, dSl, dPart, dNoPart, dNeg, dPenC, dPenA, dPenL, dPutA, dPutL, dgFld, dNew, dMet, dLstM, dFrz, dApp, dgIx, dAug, startD, List.map_cons, List.map_nil, List.length_cons, List.length_nil, List.replicate, Nat.reduceAdd, Nat.reduceSub, List.cons_append, List.nil_append, List.append_nil, List.set_cons_zero, List.set_cons_succ, List.getElem?_cons_zero, List.getElem?_cons_succ, dFld_eq, gIx0, gIx1, gIx2, gIx3, gIx4, lIx0, lIx1, lIx2, true_and, Nat.reduceLeDiff, dLamV, mup_mup]
  refine ⟨p, rfl, ⟨_, mup_same⟩, _, mup_same, by simp, ?_⟩
  unfold u__law_are_refused_8
  simp only [dSeq, dNext, dIfS, dTest, dOp, dVar, dC, dRet, dRetN, dGet, dAnd, dOr, dNot, dAndV, dOrV, dNotV, dIf, dNil, dCons, dTup, dLst, dCB, dM0, dM1, dDrop, dAsg, dgName, dPar, dCal, dChain, dRaise, dRaise2, dFor, diSeq, items, diRange1, diRange2, dLc, dYes, dgTup, dgCons, dgNil, dSl, dPart, dNoPart, dNeg, dPenC, dPenA, dPenL, dPutA, dPutL, dgFld, dNew, dMet, dLstM, dFrz, dApp, dgIx, dAug, startD, List.map_cons, List.map_nil, List.length_cons, List.length_nil, List.replicate, Nat.reduceAdd, Nat.reduceSub, List.cons_append, List.nil_append, List.append_nil, List.set_cons_zero, List.set_cons_succ, List.getElem?_cons_zero, List.getElem?_cons_succ, dFld_eq, gIx0, gIx1, gIx2, gIx3, gIx4, lIx0, lIx1, lIx2, true_and, Nat.reduceLeDiff, dLamV, mup_mup]
  refine ⟨p, rfl, ⟨_, mup_same⟩, _, mup_same, by simp, ?_⟩
  unfold u__law_are_refused_9
  simp only [dSeq, dNext, dIfS, dTest, dOp, dVar, dC, dRet, dRetN, dGet, dAnd, dOr, dNot, dAndV, dOrV, dNotV, dIf, dNil, dCons, dTup, dLst, dCB, dM0, dM1, dDrop, dAsg, dgName, dPar, dCal, dChain, dRaise, dRaise2, dFor, diSeq, items, diRange1, diRange2, dLc, dYes, dgTup, dgCons, dgNil, dSl, dPart, dNoPart, dNeg, dPenC, dPenA, dPenL, dPutA, dPutL, dgFld, dNew, dMet, dLstM, dFrz, dApp, dgIx, dAug, startD, List.map_cons, List.map_nil, List.length_cons, List.length_nil, List.replicate, Nat.reduceAdd, Nat.reduceSub, List.cons_append, List.nil_append, List.append_nil, List.set_cons_zero, List.set_cons_succ, List.getElem?_cons_zero, List.getElem?_cons_succ, dFld_eq, gIx0, gIx1, gIx2, gIx3, gIx4, lIx0, lIx1, lIx2, true_and, Nat.reduceLeDiff, mup_mup]
  refine ⟨p, _, _, rfl, mup_same, rfl, ?_⟩
  simp only [items, List.cons_append, List.nil_append, mup_mup, mup_back hp]
  refine lams2_ok (fr := fr) (Lm := Lm) [(0, x), (1, y), (2, y), (3, y), (4, x), (5, .lst []), (6, gridD A rows)] [] ⟨u, μ⟩ (fun z hz => ?_) (by simp) ?_
  · simp only [List.mem_cons, List.not_mem_nil, or_false] at hz
    rcases hz with rfl | rfl | rfl | rfl | rfl | rfl | rfl <;> refine ⟨by simp, fun m q' hq => ?_⟩ <;> simp only [fb__law_are_refused, dSeq, dNext, dIfS, dTest, dOp, dVar, dC, dRet, dRetN, dGet, dAnd, dOr, dNot, dAndV, dOrV, dNotV, dIf, dNil, dCons, dTup, dLst, dCB, dM0, dM1, dDrop, dAsg, dgName, dPar, dCal, dChain, dRaise, dRaise2, dFor, diSeq, items, diRange1, diRange2, dLc, dYes, dgTup, dgCons, dgNil, dSl, dPart, dNoPart, dNeg, dPenC, dPenA, dPenL, dPutA, dPutL, dgFld, dNew, dMet, dLstM, dFrz, dApp, dgIx, dAug, startD, List.map_cons, List.map_nil, List.length_cons, List.length_nil, List.replicate, Nat.reduceAdd, Nat.reduceSub, List.cons_append, List.nil_append, List.append_nil, List.set_cons_zero, List.set_cons_succ, List.getElem?_cons_zero, List.getElem?_cons_succ, dFld_eq, gIx0, gIx1, gIx2, gIx3, gIx4, lIx0, lIx1, lIx2, true_and, Nat.reduceLeDiff]
    · exact rf_bad W.se (fun q2 y2 h2 => ⟨_, _, _, rfl, .inl ⟨W.kg, h2⟩⟩) hq
    · exact rf_bad L.se (fun q2 y2 h2 => ⟨_, _, _, rfl, .inr ⟨rows, rfl, hg, .inl ⟨L.kd, L.bd, h2⟩⟩⟩) hq
    · exact rf_bad L.se (fun q2 y2 h2 => ⟨_, _, _, rfl, .inr ⟨rows, rfl, hg, .inr (.inl ⟨1, rfl, by decide, L.kd, L.bd, h2⟩)⟩⟩) hq
    · exact rf_bad L.se (fun q2 y2 h2 => ⟨_, _, _, rfl, .inr ⟨rows, rfl, hg, .inl ⟨L.kd, L.bd, h2⟩⟩⟩) hq
    · exact rf_bad W.se (fun q2 y2 h2 => ⟨_, rfl, .inr (.inl ⟨rows, x, [y], rfl, W.kg, h2⟩)⟩) hq
    · exact rf_bad self_nil (fun q2 y2 h2 => ⟨_, rfl, .inr (.inr (.inl ⟨rfl, h2⟩))⟩) hq
    · exact rf_bad (self_grid hg) (fun q2 y2 h2 => ⟨_, rfl, .inr (.inr (.inr ⟨rows, rfl, h2⟩))⟩) hq
  · simp only [List.nil_append]
    exact all_rep _ ⟨⟨u, μ⟩, NS.Sub.refl _, h u (by omega) (by omega)⟩
end
end K43

set_option Elab.async false
set_option linter.all false
set_option maxRecDepth 100000
set_option maxHeartbeats 8000000
set_option autoImplicit false
/-! k43: the law. -/
namespace K43
open PySem PySem.Spec PyProof.Rows L2 DL
theorem MX.uniq {is : List Int} {a b : Int} (h : MX is a) (k : MX is b) : a = b := Int.le_antisymm (k.2 _ h.1) (h.2 _ k.1)
theorem MX.rev {is : List Int} {a : Int} (h : MX is.reverse a) : MX is a := ⟨List.mem_reverse.mp h.1, fun y hy => h.2 y (List.mem_reverse.mpr hy)⟩
theorem eq_two {h w : Int} {k : Bool → Prop} (hk : k true) : eqD (.tup [.int h, .int w]) (.tup [.int h, .int w]) k := by
  refine ⟨.tuple [.int h, .int w], .tuple [.int h, .int w], rfl, rfl, ?_, ?_, ?_⟩
  · simp [SeqAt.shaped, PyData.canLay0, PyData.canLayAll0, PyData.depth, PyData.depthAll]
  · simp [SeqAt.shaped, PyData.canLay0, PyData.canLayAll0, PyData.depth, PyData.depthAll]
  · have : PyData.eqv (.tuple [.int h, .int w]) (.tuple [.int h, .int w]) = true := by simp [PyData.eqv, PyData.eqvAll]
    rw [this]
    exact hk
section
variable {P : Program} {K : PySem.W.Frag} {mg : Str → Option Value} {A : Ad}
abbrev gds (A : Ad) (tabs : List (List (List D))) : List D := tabs.map (gridD A)
abbrev tds (tabs : List (List (List D))) : List D := tabs.map fun rows => D.lst (lRows rows)
theorem law_turn {cs : List Int} {tabs : List (List (List D))} {rows : List (List D)} {H W : Nat} {i j : Nat} {t0 : Nat} {μ : Addr → Option MO} {x0 x5 x6 x9 x10 x12 : Option D} {k : DEnds} (hg : GR A rows) (hi : tabs[i]? = some rows) (hH : H ≤ 10000) (hW : W ≤ 10000) (ht : t0 + 4 < 1000000)
    (Hk : ∀ t x5 x12, t0 ≤ t → t ≤ t0 + 4 → k.nx [x0, some .pen, some (.lst (tds tabs)), some (.int (i : Nat)), some (.lst (gds A tabs)), x5, x6, some (.int (H : Nat)), some (.int (W : Nat)), x9, x10, some (.int (j : Nat)), x12] ⟨t, μ⟩) :
    l_law_2 K A cs k [x0, some .pen, some (.lst (tds tabs)), some (.int (i : Nat)), some (.lst (gds A tabs)), x5, x6, some (.int (H : Nat)), some (.int (W : Nat)), x9, x10, some (.int (j : Nat)), x12] ⟨t0, μ⟩ := by
  have hl : i < tabs.length := (List.getElem?_eq_some_iff.mp hi).1
  have he : tabs[i] = rows := (List.getElem?_eq_some_iff.mp hi).2
  have ixT : ∀ (n : NS) (q : D → NS → Prop), gIx (.lst (tds tabs)) (.int (i : Nat)) n q = q (.lst (lRows rows)) n := fun n q => ex_eq (by rw [DL.atI_nat (by rw [List.length_map]; exact hl)]; simp [he])
  have ixG : ∀ (n : NS) (q : D → NS → Prop), gIx (.lst (gds A tabs)) (.int (i : Nat)) n q = q (gridD A rows) n := fun n q => ex_eq (by rw [DL.atI_nat (by rw [List.length_map]; exact hl)]; simp [he])
  have h1 := hg.hl
  have h2 := hg.wl
  have fin : ∀ (r c : Int) (t : Nat), 1 ≤ r → 1 ≤ c → t0 ≤ t → t ≤ t0 + 4 → dIfS (dNot (dTest (dCal 2 (s__law_same A) (dCons (dCal 3 (s_part_at A) (dCons (dOp gIx (dVar 4) (dVar 3)) (dCons (dVar 5) (dCons (dVar 12) dNil)))) (dCons (dCal 3 (s__law_given A) (dCons (dOp gIx (dVar 2) (dVar 3)) (dCons (dVar 5) (dCons (dVar 12) dNil)))) dNil))))) (dRet (dC (.bl false))) dNext k
      [x0, some .pen, some (.lst (tds tabs)), some (.int (i : Nat)), some (.lst (gds A tabs)), some (.int r), x6, some (.int (H : Nat)), some (.int (W : Nat)), x9, x10, some (.int (j : Nat)), some (.int c)] ⟨t, μ⟩ := fun r c t r1 c1 t1 t2 => by
    simp only [dSeq, dNext, dIfS, dTest, dOp, dVar, dC, dRet, dRetN, dGet, dAnd, dOr, dNot, dAndV, dOrV, dNotV, dIf, dNil, dCons, dTup, dLst, dCB, dM0, dM1, dDrop, dAsg, dgName, dPar, dCal, dChain, dRaise, dRaise2, dFor, diSeq, items, diRange1, diRange2, dLc, dYes, dgTup, dgCons, dgNil, dSl, dPart, dNoPart, dNeg, dPenC, dPenA, dPenL, dPutA, dPutL, dgFld, dNew, dMet, dLstM, dFrz, dApp, dgIx, dAug, startD, List.map_cons, List.map_nil, List.length_cons, List.length_nil, List.replicate, Nat.reduceAdd, Nat.reduceSub, List.cons_append, List.nil_append, List.append_nil, List.set_cons_zero, List.set_cons_succ, List.getElem?_cons_zero, List.getElem?_cons_succ, dFld_eq, gIx0, gIx1, gIx2, gIx3, gIx4, lIx0, lIx1, lIx2, true_and, Nat.reduceLeDiff, ixT, ixG]
    refine ⟨_, _, _, rfl, .inr ⟨rows, rfl, hg, .inr (.inr ⟨r, c, rfl, rfl, r1, c1, ?_⟩)⟩⟩
    refine ⟨rows, r, c, rfl, hg, r1, c1, ?_⟩
    refine ⟨_, rfl, hg.giv r1 c1, ?_⟩
    simp only [Bool.not_true]
    exact Hk t _ _ t1 t2
  unfold l_law_2
  simp only [dSeq, dAsg, dPar, dTup, dCons, dNil, dOp, dC, dCal, dVar, dGet, dgTup, dgCons, dgNil, dgName, gAdd, List.getElem?_cons_zero, List.getElem?_cons_succ, List.set_cons_succ, List.set_cons_zero, List.length_cons, List.length_nil, Nat.reduceAdd, true_and]
  refine ⟨_, rfl, by omega, by omega, by unfold lim; simp only; omega, fun a t a0 a1 t1 t2 => ⟨_, rfl, by omega, by omega, by unfold lim; simp only at t1 t2 ⊢; omega, fun b u b0 b1 u1 u2 => ?_⟩⟩
  simp only at t1 t2 u1 u2
  by_cases c4 : ((j : Nat) : Int) < 4
  · unfold dIfS
    simp only [dTest, dOp, dVar, dGet, dC, gLt, gOrd, c4, decide_true, dSeq, dAsg, dCal, dCons, dNil, dLst, dCB, gLen, gAdd, gPow, gI, dgName, ixT, ix0 D.lst hg.ne, List.length_map, List.getElem?_cons_zero, List.getElem?_cons_succ, List.set_cons_succ, List.set_cons_zero, List.length_cons, List.length_nil, Nat.reduceAdd, Nat.reduceLeDiff, true_and]
    rw [show (rows.headD []).length = wdt rows from rfl]
    refine ⟨⟨by decide, by decide, by decide⟩, _, rfl, by simp, by simp, by unfold lim; simp only; omega, fun x v hx v1 v2 => ?_⟩
    simp only at v1 v2
    refine ⟨_, rfl, by simp, by simp, by unfold lim; simp only; omega, fun y w hy w1 w2 => ?_⟩
    simp only at w1 w2
    have ex : ∃ r : Int, x = .int r ∧ 1 ≤ r := by
      simp only [List.mem_cons, List.not_mem_nil, or_false] at hx
      have := hg.ne
      rcases hx with rfl | rfl | rfl | rfl
      · exact ⟨_, rfl, by omega⟩
      · exact ⟨_, rfl, by omega⟩
      · exact ⟨_, rfl, by decide⟩
      · exact ⟨_, rfl, by decide⟩
    have ey : ∃ c : Int, y = .int c ∧ 1 ≤ c := by
      simp only [List.mem_cons, List.not_mem_nil, or_false] at hy
      have := hg.wp
      rcases hy with rfl | rfl | rfl
      · exact ⟨_, rfl, by decide⟩
      · exact ⟨_, rfl, by omega⟩
      · exact ⟨_, rfl, by omega⟩
    obtain ⟨r, rfl, r1⟩ := ex
    obtain ⟨c, rfl, c1⟩ := ey
    exact fin r c w r1 c1 (by omega) (by omega)
  · have st : ∀ f g : DTS, dIfS (dTest (dOp gLt (dVar 11) (dC (.int 4)))) f g = dIfS (dTest (dOp gLt (dVar 11) (dC (.int 4)))) f g := fun _ _ => rfl
    unfold dIfS
    simp only [dTest, dOp, dVar, dGet, dC, gLt, gOrd, c4, decide_false, dNext, List.getElem?_cons_zero, List.getElem?_cons_succ]
    exact fin (1 + a) (1 + b) u (by omega) (by omega) (by omega) (by omega)
end
end K43

set_option Elab.async false
set_option linter.all false
set_option maxRecDepth 100000
set_option maxHeartbeats 8000000
set_option autoImplicit false
/-! k43: the law. -/
namespace K43
open PySem PySem.Spec PyProof.Rows L2 DL
theorem for_const {g : DTG} {body : DTS} {k : DEnds} {δ : DEnv} {n : NS} {m : Int} (h1 : m < 2 ^ 62) (h2 : -(2 ^ 62) ≤ m) (H : ∀ L : List D, L = rangeD 0 m.toNat → dForL g body L k δ n) : dFor (diRange1 (dCons (dC (.int m)) dNil)) g body k δ n := by
  simp only [dFor, diRange1, dCons, dC, dNil]
  exact ⟨h1, h2, H _ rfl⟩
theorem range_nat (m : Nat) : rangeD 0 m = (List.range m).map fun j => D.int (j : Nat) := by simp [rangeD]
section
variable {P : Program} {K : PySem.W.Frag} {mg : Str → Option Value} {A : Ad}
theorem ne_two {Cs : List (Addr × DSp)} {h w : Int} {n : NS} {q : D → NS → Prop} (hq : q (.bl false) n) : gNeS Cs (.tup [.int h, .int w]) (.tup [.int h, .int w]) n q := eq_two (k := fun b => q (.bl (!b)) n) hq
theorem ne_grids {tabs : List (List (List D))} {n : NS} {q : D → NS → Prop} (hg : ∀ r ∈ tabs, GR A r) (hq : q (.bl false) n) : gNeS [(A.Grid, s_Grid_eq A)] (.lst (gds A tabs)) (.lst (gds A tabs)) n q := by
  refine ⟨rfl, fun d hd => ?_, hq⟩
  obtain ⟨rows, hr, rfl⟩ := List.mem_map.mp hd
  exact ⟨s_Grid_eq A, by simp, fun n q e hq => ⟨rows, rfl, hg rows hr, hq⟩⟩
theorem turns {cs : List Int} {tabs : List (List (List D))} {rows : List (List D)} {H W : Nat} {i : Nat} {t0 T : Nat} {μ : Addr → Option MO} {x0 x6 x9 x10 : Option D} {k : DEnds} (hg : GR A rows) (hi : tabs[i]? = some rows) (hH : H ≤ 10000) (hW : W ≤ 10000) (hT : T < 1000000)
    (Hk : ∀ t x5 x11 x12, t0 ≤ t → t ≤ T → k.nx [x0, some .pen, some (.lst (tds tabs)), some (.int (i : Nat)), some (.lst (gds A tabs)), x5, x6, some (.int (H : Nat)), some (.int (W : Nat)), x9, x10, x11, x12] ⟨t, μ⟩) :
    ∀ (js : List Nat) (t : Nat) (x5 x11 x12 : Option D), t0 ≤ t → t + 4 * js.length ≤ T → dForL (dgName 11) (l_law_2 K A cs) (js.map fun j => .int (j : Nat)) k [x0, some .pen, some (.lst (tds tabs)), some (.int (i : Nat)), some (.lst (gds A tabs)), x5, x6, some (.int (H : Nat)), some (.int (W : Nat)), x9, x10, x11, x12] ⟨t, μ⟩
  | [], t, x5, x11, x12, h1, h2 => Hk t x5 x11 x12 h1 (by simpa using h2)
  | j :: js, t, x5, x11, x12, h1, h2 => by
    rw [List.length_cons] at h2
    rw [List.map_cons]
    unfold dForL
    simp only [dgName, List.set_cons_succ, List.set_cons_zero]
    refine law_turn (K := K) (cs := cs) hg hi hH hW (by omega) fun t' x5 x12 h3 h4 => ?_
    exact turns hg hi hH hW hT Hk js t' _ _ _ (by omega) (by omega)
theorem tables {cs : List Int} {tabs : List (List (List D))} {H W : Nat} {t0 T : Nat} {μ : Addr → Option MO} {x0 x6 x9 x10 : Option D} {k : DEnds} (hg : ∀ r ∈ tabs, GR A r) (hH : H ≤ 10000) (hW : W ≤ 10000) (hT : T < 1000000)
    (Hk : ∀ t x3 x5 x11 x12, t0 ≤ t → t ≤ T → k.nx [x0, some .pen, some (.lst (tds tabs)), x3, some (.lst (gds A tabs)), x5, x6, some (.int (H : Nat)), some (.int (W : Nat)), x9, x10, x11, x12] ⟨t, μ⟩) :
    ∀ (is : List Nat) (t : Nat) (x3 x5 x11 x12 : Option D), (∀ i ∈ is, i < tabs.length) → t0 ≤ t → t + 48 * is.length ≤ T → dForL (dgName 3) (l_law_3 K A cs) (is.map fun j => .int (j : Nat)) k [x0, some .pen, some (.lst (tds tabs)), x3, some (.lst (gds A tabs)), x5, x6, some (.int (H : Nat)), some (.int (W : Nat)), x9, x10, x11, x12] ⟨t, μ⟩
  | [], t, x3, x5, x11, x12, _, h1, h2 => Hk t x3 x5 x11 x12 h1 (by simpa using h2)
  | i :: is, t, x3, x5, x11, x12, hi, h1, h2 => by
    rw [List.length_cons] at h2
    rw [List.map_cons]
    have hl := hi i List.mem_cons_self
    unfold dForL l_law_3
    simp only [dgName, List.set_cons_succ, List.set_cons_zero]
    refine for_const (by decide) (by decide) fun L hL => ?_
    subst hL
    rw [range_nat]
    refine turns (K := K) (cs := cs) (t0 := t) (T := t + 48) (hg _ (List.getElem_mem hl)) (List.getElem?_eq_getElem hl) hH hW (by omega) (fun t' x5 x11 x12 h3 h4 => ?_) _ t x5 x11 x12 (Nat.le_refl _) (by simp)
    exact tables hg hH hW hT Hk is t' _ _ _ _ (fun j hj => hi j (List.mem_cons_of_mem _ hj)) (by omega) (by omega)
end
end K43

set_option Elab.async false
set_option linter.all false
set_option maxRecDepth 100000
set_option maxHeartbeats 8000000
set_option autoImplicit false
/-! k43: the law, joined. -/
namespace K43
open PySem PySem.Spec PyProof.Rows L2 DL
theorem mx_ex : ∀ is : List Int, is ≠ [] → ∃ m, MX is m
  | [], h => absurd rfl h
  | [a], _ => ⟨a, List.mem_cons_self, fun y hy => by rw [List.mem_singleton.mp hy]; exact Int.le_refl _⟩
  | a :: b :: is, _ => by
    obtain ⟨m, h1, h2⟩ := mx_ex (b :: is) (List.cons_ne_nil _ _)
    by_cases c : a ≤ m
    · exact ⟨m, List.mem_cons_of_mem _ h1, fun y hy => by
        rcases List.mem_cons.mp hy with rfl | hy
        · exact c
        · exact h2 y hy⟩
    · exact ⟨a, List.mem_cons_self, fun y hy => by
        rcases List.mem_cons.mp hy with rfl | hy
        · exact Int.le_refl _
        · have := h2 y hy
          omega⟩
theorem hts_rev (gs : List (List (List D))) : hts gs.reverse = (hts gs).reverse := List.map_reverse
theorem wds_rev (gs : List (List (List D))) : wds gs.reverse = (wds gs).reverse := List.map_reverse
section
variable {P : Program} {K : PySem.W.Frag} {mg : Str → Option Value} {A : Ad}
theorem law7 {cs : List Int} {tabs : List (List (List D))} {H W : Nat} {t : Nat} {μ : Addr → Option MO} {x0 x3 x5 x6 x9 x10 x11 x12 : Option D} {e : DX} (hg : ∀ r ∈ tabs, GR A r) (h0 : tabs ≠ []) (h1 : tabs.length ≤ 5) (hH : H ≤ 10000) (hW : W ≤ 10000) (ht : t ≤ 2000) :
    u_law_7 K A cs { nx := fun _ _ => False, rt := fun d _ => d = .bl true, ex := e } [x0, some .pen, some (.lst (tds tabs)), x3, some (.lst (gds A tabs)), x5, x6, some (.int (H : Nat)), some (.int (W : Nat)), x9, x10, x11, x12] ⟨t, μ⟩ := by
  have hn : 0 < tabs.length := List.length_pos_iff.mpr h0
  unfold u_law_7
  simp only [dSeq, dNext, dIfS, dTest, dOp, dVar, dC, dRet, dRetN, dGet, dAnd, dOr, dNot, dAndV, dOrV, dNotV, dIf, dNil, dCons, dTup, dLst, dCB, dM0, dM1, dDrop, dAsg, dgName, dPar, dCal, dChain, dRaise, dRaise2, dFor, diSeq, items, diRange1, diRange2, dLc, dYes, dgTup, dgCons, dgNil, dSl, dPart, dNoPart, dNeg, dPenC, dPenA, dPenL, dPutA, dPutL, dgFld, dNew, dMet, dLstM, dFrz, dApp, dgIx, dAug, startD, List.map_cons, List.map_nil, List.length_cons, List.length_nil, List.replicate, Nat.reduceAdd, Nat.reduceSub, List.cons_append, List.nil_append, List.append_nil, List.set_cons_zero, List.set_cons_succ, List.getElem?_cons_zero, List.getElem?_cons_succ, dFld_eq, gIx0, gIx1, gIx2, gIx3, gIx4, lIx0, lIx1, lIx2, true_and, Nat.reduceLeDiff]
  simp only [gLen, List.length_map, Int.toNat_natCast, range_nat]
  refine ⟨by omega, by omega, ?_⟩
  refine tables (K := K) (cs := cs) (t0 := t) (T := t + 240) hg hH hW (by omega) (fun t' x3 x5 x11 x12 h2 h3 => ?_) _ t x3 x5 x11 x12 (fun i hi => List.mem_range.mp hi) (Nat.le_refl _) (by rw [List.length_range]; omega)
  simp only
  unfold u_law_8
  simp only [dSeq, dNext, dIfS, dTest, dOp, dVar, dC, dRet, dRetN, dGet, dAnd, dOr, dNot, dAndV, dOrV, dNotV, dIf, dNil, dCons, dTup, dLst, dCB, dM0, dM1, dDrop, dAsg, dgName, dPar, dCal, dChain, dRaise, dRaise2, dFor, diSeq, items, diRange1, diRange2, dLc, dYes, dgTup, dgCons, dgNil, dSl, dPart, dNoPart, dNeg, dPenC, dPenA, dPenL, dPutA, dPutL, dgFld, dNew, dMet, dLstM, dFrz, dApp, dgIx, dAug, startD, List.map_cons, List.map_nil, List.length_cons, List.length_nil, List.replicate, Nat.reduceAdd, Nat.reduceSub, List.cons_append, List.nil_append, List.append_nil, List.set_cons_zero, List.set_cons_succ, List.getElem?_cons_zero, List.getElem?_cons_succ, dFld_eq, gIx0, gIx1, gIx2, gIx3, gIx4, lIx0, lIx1, lIx2, true_and, Nat.reduceLeDiff]
  cases tabs with
  | nil => exact absurd rfl h0
  | cons rows tabs =>
    simp only [List.map_cons, lIx0]
    exact ⟨rows, rfl, hg rows List.mem_cons_self, by unfold lim; simp only; omega, fun _ _ _ => rfl⟩
theorem law3 {cs : List Int} {tabs : List (List (List D))} {t : Nat} {μ : Addr → Option MO} {x0 x3 x5 x6 x7 x8 x9 x10 x11 x12 : Option D} {e : DX} (hg : ∀ r ∈ tabs, GR A r) (h0 : tabs ≠ []) (h1 : tabs.length ≤ 5) (ht : t ≤ 2000) :
    u_law_3 K A cs { nx := fun _ _ => False, rt := fun d _ => d = .bl true, ex := e } [x0, some .pen, some (.lst (tds tabs)), x3, some (.lst (gds A tabs)), x5, x6, x7, x8, x9, x10, x11, x12] ⟨t, μ⟩ := by
  have hn : 0 < tabs.length := List.length_pos_iff.mpr h0
  obtain ⟨H0, mH⟩ := mx_ex (hts tabs) (by simpa [hts] using h0)
  obtain ⟨W0, mW⟩ := mx_ex (wds tabs) (by simpa [wds] using h0)
  obtain ⟨rh, hrh, eH⟩ := List.mem_map.mp mH.1
  obtain ⟨rw_, hrw, eW⟩ := List.mem_map.mp mW.1
  have bH := (hg rh hrh).hl
  have bW := (hg rw_ hrw).wl
  unfold u_law_3
  simp only [dSeq, dNext, dIfS, dTest, dOp, dVar, dC, dRet, dRetN, dGet, dAnd, dOr, dNot, dAndV, dOrV, dNotV, dIf, dNil, dCons, dTup, dLst, dCB, dM0, dM1, dDrop, dAsg, dgName, dPar, dCal, dChain, dRaise, dRaise2, dFor, diSeq, items, diRange1, diRange2, dLc, dYes, dgTup, dgCons, dgNil, dSl, dPart, dNoPart, dNeg, dPenC, dPenA, dPenL, dPutA, dPutL, dgFld, dNew, dMet, dLstM, dFrz, dApp, dgIx, dAug, startD, List.map_cons, List.map_nil, List.length_cons, List.length_nil, List.replicate, Nat.reduceAdd, Nat.reduceSub, List.cons_append, List.nil_append, List.append_nil, List.set_cons_zero, List.set_cons_succ, List.getElem?_cons_zero, List.getElem?_cons_succ, dFld_eq, gIx0, gIx1, gIx2, gIx3, gIx4, lIx0, lIx1, lIx2, true_and, Nat.reduceLeDiff, items]
  refine lc_ok (b := fun rows => .int (rows.length : Nat)) tabs [] (by simp; omega) (fun rows hr m q' _ h' => ?_) ?_
  · simp only [wipeD, dSeq, dNext, dIfS, dTest, dOp, dVar, dC, dRet, dRetN, dGet, dAnd, dOr, dNot, dAndV, dOrV, dNotV, dIf, dNil, dCons, dTup, dLst, dCB, dM0, dM1, dDrop, dAsg, dgName, dPar, dCal, dChain, dRaise, dRaise2, dFor, diSeq, items, diRange1, diRange2, dLc, dYes, dgTup, dgCons, dgNil, dSl, dPart, dNoPart, dNeg, dPenC, dPenA, dPenL, dPutA, dPutL, dgFld, dNew, dMet, dLstM, dFrz, dApp, dgIx, dAug, startD, List.map_cons, List.map_nil, List.length_cons, List.length_nil, List.replicate, Nat.reduceAdd, Nat.reduceSub, List.cons_append, List.nil_append, List.append_nil, List.set_cons_zero, List.set_cons_succ, List.getElem?_cons_zero, List.getElem?_cons_succ, dFld_eq, gIx0, gIx1, gIx2, gIx3, gIx4, lIx0, lIx1, lIx2, true_and, Nat.reduceLeDiff]
    simp only [gLen, List.length_map]
    exact h'
  refine ⟨hts tabs, by simp [hts], by simpa [hts] using hn, fun H mH1 mH2 => ?_⟩
  obtain rfl := MX.uniq ⟨mH1, mH2⟩ mH
  refine lc_ok (b := fun rows => .int (wdt rows : Nat)) tabs [] (by simp; omega) (fun rows hr m q' _ h' => ?_) ?_
  · simp only [wipeD, dSeq, dNext, dIfS, dTest, dOp, dVar, dC, dRet, dRetN, dGet, dAnd, dOr, dNot, dAndV, dOrV, dNotV, dIf, dNil, dCons, dTup, dLst, dCB, dM0, dM1, dDrop, dAsg, dgName, dPar, dCal, dChain, dRaise, dRaise2, dFor, diSeq, items, diRange1, diRange2, dLc, dYes, dgTup, dgCons, dgNil, dSl, dPart, dNoPart, dNeg, dPenC, dPenA, dPenL, dPutA, dPutL, dgFld, dNew, dMet, dLstM, dFrz, dApp, dgIx, dAug, startD, List.map_cons, List.map_nil, List.length_cons, List.length_nil, List.replicate, Nat.reduceAdd, Nat.reduceSub, List.cons_append, List.nil_append, List.append_nil, List.set_cons_zero, List.set_cons_succ, List.getElem?_cons_zero, List.getElem?_cons_succ, dFld_eq, gIx0, gIx1, gIx2, gIx3, gIx4, lIx0, lIx1, lIx2, true_and, Nat.reduceLeDiff, ix0 D.lst (hg rows hr).ne, gLen]
    exact h'
  refine ⟨wds tabs, by simp [wds], by simpa [wds] using hn, fun W mW1 mW2 => ?_⟩
  obtain rfl := MX.uniq ⟨mW1, mW2⟩ mW
  subst eH
  subst eW
  unfold u_law_4
  simp only [dSeq, dNext, dIfS, dTest, dOp, dVar, dC, dRet, dRetN, dGet, dAnd, dOr, dNot, dAndV, dOrV, dNotV, dIf, dNil, dCons, dTup, dLst, dCB, dM0, dM1, dDrop, dAsg, dgName, dPar, dCal, dChain, dRaise, dRaise2, dFor, diSeq, items, diRange1, diRange2, dLc, dYes, dgTup, dgCons, dgNil, dSl, dPart, dNoPart, dNeg, dPenC, dPenA, dPenL, dPutA, dPutL, dgFld, dNew, dMet, dLstM, dFrz, dApp, dgIx, dAug, startD, List.map_cons, List.map_nil, List.length_cons, List.length_nil, List.replicate, Nat.reduceAdd, Nat.reduceSub, List.cons_append, List.nil_append, List.append_nil, List.set_cons_zero, List.set_cons_succ, List.getElem?_cons_zero, List.getElem?_cons_succ, dFld_eq, gIx0, gIx1, gIx2, gIx3, gIx4, lIx0, lIx1, lIx2, true_and, Nat.reduceLeDiff, gList]
  unfold u_law_5
  simp only [dSeq, dNext, dIfS, dTest, dOp, dVar, dC, dRet, dRetN, dGet, dAnd, dOr, dNot, dAndV, dOrV, dNotV, dIf, dNil, dCons, dTup, dLst, dCB, dM0, dM1, dDrop, dAsg, dgName, dPar, dCal, dChain, dRaise, dRaise2, dFor, diSeq, items, diRange1, diRange2, dLc, dYes, dgTup, dgCons, dgNil, dSl, dPart, dNoPart, dNeg, dPenC, dPenA, dPenL, dPutA, dPutL, dgFld, dNew, dMet, dLstM, dFrz, dApp, dgIx, dAug, startD, List.map_cons, List.map_nil, List.length_cons, List.length_nil, List.replicate, Nat.reduceAdd, Nat.reduceSub, List.cons_append, List.nil_append, List.append_nil, List.set_cons_zero, List.set_cons_succ, List.getElem?_cons_zero, List.getElem?_cons_succ, dFld_eq, gIx0, gIx1, gIx2, gIx3, gIx4, lIx0, lIx1, lIx2, true_and, Nat.reduceLeDiff]
  refine ⟨_, rfl, .inl ⟨tabs, .inl rfl, h0, by omega, fun h w mh mw => ?_⟩⟩
  obtain rfl := MX.uniq mh mH
  obtain rfl := MX.uniq mw mW
  unfold u_law_6
  simp only [dSeq, dNext, dIfS, dTest, dOp, dVar, dC, dRet, dRetN, dGet, dAnd, dOr, dNot, dAndV, dOrV, dNotV, dIf, dNil, dCons, dTup, dLst, dCB, dM0, dM1, dDrop, dAsg, dgName, dPar, dCal, dChain, dRaise, dRaise2, dFor, diSeq, items, diRange1, diRange2, dLc, dYes, dgTup, dgCons, dgNil, dSl, dPart, dNoPart, dNeg, dPenC, dPenA, dPenL, dPutA, dPutL, dgFld, dNew, dMet, dLstM, dFrz, dApp, dgIx, dAug, startD, List.map_cons, List.map_nil, List.length_cons, List.length_nil, List.replicate, Nat.reduceAdd, Nat.reduceSub, List.cons_append, List.nil_append, List.append_nil, List.set_cons_zero, List.set_cons_succ, List.getElem?_cons_zero, List.getElem?_cons_succ, dFld_eq, gIx0, gIx1, gIx2, gIx3, gIx4, lIx0, lIx1, lIx2, true_and, Nat.reduceLeDiff, dRevL]
  refine ne_two ?_
  simp only [gIsi, isiD, kindD, kit_int_int, kit_int_bool, kit_int_str, kit_int_list, kit_int_tuple, kit_bool_int, kit_bool_bool, kit_bool_str, kit_bool_list, kit_bool_tuple, kit_str_int, kit_str_bool, kit_str_str, kit_str_list, kit_str_tuple, kit_non_int, kit_non_bool, kit_non_str, kit_non_list, kit_non_tuple, kit_list_int, kit_list_bool, kit_list_str, kit_list_list, kit_list_tuple, kit_tuple_int, kit_tuple_bool, kit_tuple_str, kit_tuple_list, kit_tuple_tuple, Bool.not_true, gTuple]
  refine ⟨_, rfl, .inl ⟨tabs.reverse, .inr (by rw [List.map_reverse]), by simpa using h0, by rw [List.length_reverse]; omega, fun h w mh mw => ?_⟩⟩
  rw [hts_rev] at mh
  rw [wds_rev] at mw
  obtain rfl := MX.uniq mh.rev mH
  obtain rfl := MX.uniq mw.rev mW
  refine ne_two ?_
  simp only
  refine ne_grids hg ?_
  simp only
  exact law7 (H := rh.length) (W := wdt rw_) hg h0 h1 bH bW ht
theorem p_law (cs : List Int) : t_law K A cs { nx := fun _ _ => False, rt := fun d _ => d = .bl true } (some .scr :: some .pen :: List.replicate 11 none) ⟨0, fun _ => none⟩ := by
  unfold t_law
  simp only [dSeq, dNext, dIfS, dTest, dOp, dVar, dC, dRet, dRetN, dGet, dAnd, dOr, dNot, dAndV, dOrV, dNotV, dIf, dNil, dCons, dTup, dLst, dCB, dM0, dM1, dDrop, dAsg, dgName, dPar, dCal, dChain, dRaise, dRaise2, dFor, diSeq, items, diRange1, diRange2, dLc, dYes, dgTup, dgCons, dgNil, dSl, dPart, dNoPart, dNeg, dPenC, dPenA, dPenL, dPutA, dPutL, dgFld, dNew, dMet, dLstM, dFrz, dApp, dgIx, dAug, startD, List.map_cons, List.map_nil, List.length_cons, List.length_nil, List.replicate, Nat.reduceAdd, Nat.reduceSub, List.cons_append, List.nil_append, List.append_nil, List.set_cons_zero, List.set_cons_succ, List.getElem?_cons_zero, List.getElem?_cons_succ, dFld_eq, gIx0, gIx1, gIx2, gIx3, gIx4, lIx0, lIx1, lIx2, true_and, Nat.reduceLeDiff, gAdd]
  refine ⟨5, rfl, by decide, by decide, by unfold lim; simp only; omega, fun c t c0 c1 t1 t2 => ?_⟩
  simp only at t1 t2
  refine ⟨by omega, by omega, ?_⟩
  have hr : ∀ k : Nat, (rangeD 0 k).length = k := fun k => by simp [rangeD]
  refine lc_dr (Good := fun y => ∃ rows, y = .lst (lRows rows) ∧ GR A rows) (c := 200) (T := 1010) (rangeD 0 (1 + c).toNat) [] t (by rw [hr]; simp; omega) (by rw [hr]; omega) (fun d hd m t q' hM hT hq => ?_) fun ys t' hy hg h2 h3 => ?_
  · simp only [wipeD, dSeq, dNext, dIfS, dTest, dOp, dVar, dC, dRet, dRetN, dGet, dAnd, dOr, dNot, dAndV, dOrV, dNotV, dIf, dNil, dCons, dTup, dLst, dCB, dM0, dM1, dDrop, dAsg, dgName, dPar, dCal, dChain, dRaise, dRaise2, dFor, diSeq, items, diRange1, diRange2, dLc, dYes, dgTup, dgCons, dgNil, dSl, dPart, dNoPart, dNeg, dPenC, dPenA, dPenL, dPutA, dPutL, dgFld, dNew, dMet, dLstM, dFrz, dApp, dgIx, dAug, startD, List.map_cons, List.map_nil, List.length_cons, List.length_nil, List.replicate, Nat.reduceAdd, Nat.reduceSub, List.cons_append, List.nil_append, List.append_nil, List.set_cons_zero, List.set_cons_succ, List.getElem?_cons_zero, List.getElem?_cons_succ, dFld_eq, gIx0, gIx1, gIx2, gIx3, gIx4, lIx0, lIx1, lIx2, true_and, Nat.reduceLeDiff]
    exact ⟨rfl, by unfold lim; simp only; omega, fun rows t3 hv h4 h5 => hq _ t3 ⟨rows, rfl, hv⟩ h4 h5⟩
  rw [hr] at hy h3
  obtain ⟨tabs, rfl, hg2⟩ := lists_of (f := fun rows => D.lst (lRows rows)) (p := GR A) ys hg
  rw [List.length_map] at hy
  have h0 : tabs ≠ [] := fun z => by subst z; simp at hy; omega
  unfold u_law_2
  simp only [List.nil_append, dSeq, dNext, dIfS, dTest, dOp, dVar, dC, dRet, dRetN, dGet, dAnd, dOr, dNot, dAndV, dOrV, dNotV, dIf, dNil, dCons, dTup, dLst, dCB, dM0, dM1, dDrop, dAsg, dgName, dPar, dCal, dChain, dRaise, dRaise2, dFor, diSeq, items, diRange1, diRange2, dLc, dYes, dgTup, dgCons, dgNil, dSl, dPart, dNoPart, dNeg, dPenC, dPenA, dPenL, dPutA, dPutL, dgFld, dNew, dMet, dLstM, dFrz, dApp, dgIx, dAug, startD, List.map_cons, List.map_nil, List.length_cons, List.length_nil, List.replicate, Nat.reduceAdd, Nat.reduceSub, List.cons_append, List.nil_append, List.append_nil, List.set_cons_zero, List.set_cons_succ, List.getElem?_cons_zero, List.getElem?_cons_succ, dFld_eq, gIx0, gIx1, gIx2, gIx3, gIx4, lIx0, lIx1, lIx2, true_and, Nat.reduceLeDiff, items]
  refine lc_ok (b := gridD A) tabs [] (by simp; omega) (fun rows hr m q' _ h' => ?_) ?_
  · have hG := hg2 rows hr
    have b1 := hG.hl
    simp only [wipeD, dSeq, dNext, dIfS, dTest, dOp, dVar, dC, dRet, dRetN, dGet, dAnd, dOr, dNot, dAndV, dOrV, dNotV, dIf, dNil, dCons, dTup, dLst, dCB, dM0, dM1, dDrop, dAsg, dgName, dPar, dCal, dChain, dRaise, dRaise2, dFor, diSeq, items, diRange1, diRange2, dLc, dYes, dgTup, dgCons, dgNil, dSl, dPart, dNoPart, dNeg, dPenC, dPenA, dPenL, dPutA, dPutL, dgFld, dNew, dMet, dLstM, dFrz, dApp, dgIx, dAug, startD, List.map_cons, List.map_nil, List.length_cons, List.length_nil, List.replicate, Nat.reduceAdd, Nat.reduceSub, List.cons_append, List.nil_append, List.append_nil, List.set_cons_zero, List.set_cons_succ, List.getElem?_cons_zero, List.getElem?_cons_succ, dFld_eq, gIx0, gIx1, gIx2, gIx3, gIx4, lIx0, lIx1, lIx2, true_and, Nat.reduceLeDiff, items]
    refine lc_ok (b := D.tup) rows [] (by simp; omega) (fun r hr m q' _ h' => ?_) ?_
    · simp only [wipeD, dSeq, dNext, dIfS, dTest, dOp, dVar, dC, dRet, dRetN, dGet, dAnd, dOr, dNot, dAndV, dOrV, dNotV, dIf, dNil, dCons, dTup, dLst, dCB, dM0, dM1, dDrop, dAsg, dgName, dPar, dCal, dChain, dRaise, dRaise2, dFor, diSeq, items, diRange1, diRange2, dLc, dYes, dgTup, dgCons, dgNil, dSl, dPart, dNoPart, dNeg, dPenC, dPenA, dPenL, dPutA, dPutL, dgFld, dNew, dMet, dLstM, dFrz, dApp, dgIx, dAug, startD, List.map_cons, List.map_nil, List.length_cons, List.length_nil, List.replicate, Nat.reduceAdd, Nat.reduceSub, List.cons_append, List.nil_append, List.append_nil, List.set_cons_zero, List.set_cons_succ, List.getElem?_cons_zero, List.getElem?_cons_succ, dFld_eq, gIx0, gIx1, gIx2, gIx3, gIx4, lIx0, lIx1, lIx2, true_and, Nat.reduceLeDiff, gTuple]
      exact h'
    · simp only [List.nil_append, g_Grid_new3]
      exact ⟨rows, rfl, hG, h'⟩
  · rw [List.nil_append]
    exact law3 hg2 h0 (by omega) (by omega)
end
end K43

set_option Elab.async false
set_option linter.all false
set_option maxRecDepth 100000
set_option maxHeartbeats 8000000
set_option autoImplicit false
namespace K43
open PySem PySem.Spec PyProof.Rows L2 DL
section
variable {P : Program} {w : World} {K : PySem.W.Frag} {mg : Str → Option Value} {base : Heap} {A : Ad} {pn : Addr} {cs : List Int} {Tb : List (Addr × Str)}
theorem b_need_items (T : Txt P K mg A)  (f : Addr) (cdv : Value) (A0 : Around) (outer : List Env) (s0 : Shared) (H : Hp) (E : XK) (hr : Room 1 (A0.deeper (envOfC "need_items" (defScope (top 11)) s0.heap.objs.size f cdv))) :
    PSs (XC P w K mg base N_need_items "need_items" (top 11) f cdv A0 outer s0 H E) (defBody (top 11)) (liftS (MM K Tb pn cs) (fun cls d _ H' => E cls d H') (t_need_items K A cs)) := by
  have tk : Takes (XC P w K mg base N_need_items "need_items" (top 11) f cdv A0 outer s0 H E) (fun cls d _ H => E cls d H) := takes_of rfl rfl rfl rfl
  have hp : PassesOwn (model P w) (XC P w K mg base N_need_items "need_items" (top 11) f cdv A0 outer s0 H E).A (XC P w K mg base N_need_items "need_items" (top 11) f cdv A0 outer s0 H E).env (XC P w K mg base N_need_items "need_items" (top 11) f cdv A0 outer s0 H E).xe := passes_of rfl
  exact (dss_one (ds_if (dt_not (dt_val (dp_bfn call_isiS (drc_isiT rfl) (by rfl) T.n_isinstance PyProof.Rows.boot_isinstance (da_cons (dp_var (pv 0)) (da_cons (dp_tup (da_cons (dp_ty (by rfl) (by exact T.n_list) PyProof.Rows.boot_list) (da_cons (dp_ty (by rfl) (by exact T.n_tuple) PyProof.Rows.boot_tuple) da_nil))) da_nil))))) (dss_one (ds_raise (ps_raiseErr rfl T.e_BadValue hr tk (da_cons (dp_var (pv 0)) da_nil) (by rfl) (by decide)))) dss_nil))
theorem b_is_number (T : Txt P K mg A)  (f : Addr) (cdv : Value) (A0 : Around) (outer : List Env) (s0 : Shared) (H : Hp) (E : XK) (hr : Room 1 (A0.deeper (envOfC "is_number" (defScope (top 118)) s0.heap.objs.size f cdv))) :
    PSs (XC P w K mg base N_is_number "is_number" (top 118) f cdv A0 outer s0 H E) (defBody (top 118)) (liftS (MM K Tb pn cs) (fun cls d _ H' => E cls d H') (t_is_number K A cs)) := by
  have tk : Takes (XC P w K mg base N_is_number "is_number" (top 118) f cdv A0 outer s0 H E) (fun cls d _ H => E cls d H) := takes_of rfl rfl rfl rfl
  have hp : PassesOwn (model P w) (XC P w K mg base N_is_number "is_number" (top 118) f cdv A0 outer s0 H E).A (XC P w K mg base N_is_number "is_number" (top 118) f cdv A0 outer s0 H E).env (XC P w K mg base N_is_number "is_number" (top 118) f cdv A0 outer s0 H E).xe := passes_of rfl
  exact (dss_one (ds_ret (dp_bfn call_isiS (drc_isiT rfl) (by rfl) T.n_isinstance PyProof.Rows.boot_isinstance (da_cons (dp_var (pv 0)) (da_cons (dp_tup (da_cons (dp_cls (by rfl) (by exact T.c_Ratio)) (da_cons (dp_cls (by rfl) (by exact T.c_Strand)) (da_cons (dp_cls (by rfl) (by exact T.c_Member)) da_nil)))) da_nil)))))
theorem b_is_text (T : Txt P K mg A)  (f : Addr) (cdv : Value) (A0 : Around) (outer : List Env) (s0 : Shared) (H : Hp) (E : XK) (hr : Room 1 (A0.deeper (envOfC "is_text" (defScope (top 119)) s0.heap.objs.size f cdv))) :
    PSs (XC P w K mg base N_is_text "is_text" (top 119) f cdv A0 outer s0 H E) (defBody (top 119)) (liftS (MM K Tb pn cs) (fun cls d _ H' => E cls d H') (t_is_text K A cs)) := by
  have tk : Takes (XC P w K mg base N_is_text "is_text" (top 119) f cdv A0 outer s0 H E) (fun cls d _ H => E cls d H) := takes_of rfl rfl rfl rfl
  have hp : PassesOwn (model P w) (XC P w K mg base N_is_text "is_text" (top 119) f cdv A0 outer s0 H E).A (XC P w K mg base N_is_text "is_text" (top 119) f cdv A0 outer s0 H E).env (XC P w K mg base N_is_text "is_text" (top 119) f cdv A0 outer s0 H E).xe := passes_of rfl
  exact (dss_cons (ds_if (dt_w (dw_or (dt_not (dt_val (dp_bfn (call_isi) (drc_isi rfl) (by rfl) T.n_isinstance PyProof.Rows.boot_isinstance (da_cons (dp_var (pv 0)) (da_cons (dp_ty (by rfl) (by exact T.n_str) PyProof.Rows.boot_str) da_nil))))) (dw_or1 (dt_cmp op_gtX dr_ord (dp_bfn (call_len) (drc_len rfl) (by rfl) T.n_len PySem.boot_len (da_cons (dp_var (pv 0)) da_nil)) (dp_gi T.g_MOST_SIGNS rfl) (nomark _))))) (dss_one (ds_ret dp_bl)) dss_nil)
      (dss_one (ds_ret (dp_bfn (cr_all rfl) (drc_all rfl) (by rfl) T.n_all PyProof.Rows.boot_all (da_cons (dp_lc (pe_lc (own := [("sign", 1)]) rfl sc_is_text.nd (di_list rfl (dp_var (pv 0))) (blkOk_by (N := N_is_text) (sc := defScope (top 119)) (by decide +kernel)) (fun s H C cl fp => dg_of (pg_name (i := 1) sc_is_text.nd rfl (Or.inl rfl)) List.mem_cons_self) (fun s H C cl fp => by exact dts_nil) (fun s H C cl fp => by exact (dp_chain op_leX dr_ord op_leX dr_ord (dp_str [32]) (dp_var (pv 1)) (dp_str [126]))))) da_nil)))))
theorem b_is_value (T : Txt P K mg A) (cis_number : CalD P w K mg base (MM K Tb pn cs) 2 "is_number" ["thing"] (s_is_number A)) (cis_text : CalD P w K mg base (MM K Tb pn cs) 2 "is_text" ["thing"] (s_is_text A)) (f : Addr) (cdv : Value) (A0 : Around) (outer : List Env) (s0 : Shared) (H : Hp) (E : XK) (hr : Room 2 (A0.deeper (envOfC "is_value" (defScope (top 120)) s0.heap.objs.size f cdv))) :
    PSs (XC P w K mg base N_is_value "is_value" (top 120) f cdv A0 outer s0 H E) (defBody (top 120)) (liftS (MM K Tb pn cs) (fun cls d _ H' => E cls d H') (t_is_value K A cs)) := by
  have tk : Takes (XC P w K mg base N_is_value "is_value" (top 120) f cdv A0 outer s0 H E) (fun cls d _ H => E cls d H) := takes_of rfl rfl rfl rfl
  have hp : PassesOwn (model P w) (XC P w K mg base N_is_value "is_value" (top 120) f cdv A0 outer s0 H E).A (XC P w K mg base N_is_value "is_value" (top 120) f cdv A0 outer s0 H E).env (XC P w K mg base N_is_value "is_value" (top 120) f cdv A0 outer s0 H E).xe := passes_of rfl
  exact (dss_cons (ds_if (dt_w (dw_or (dt_cmp op_isN dr_isN (dp_var (pv 0)) dp_non (nomark _)) (dw_or1 (dt_val (dp_bfn call_isiS (drc_isiT rfl) (by rfl) T.n_isinstance PyProof.Rows.boot_isinstance (da_cons (dp_var (pv 0)) (da_cons (dp_tup (da_cons (dp_ty (by rfl) (by exact T.n_bool) PyProof.Rows.boot_bool) (da_cons (dp_cls (by rfl) (by exact T.c_Fault)) da_nil))) da_nil))))))) (dss_one (ds_ret dp_bl)) dss_nil)
      (dss_one (ds_ret (dp_or (dp_cal (by exact cis_number) (by exact hr) (by decide) (by exact tk) (by rfl) (da_cons (dp_var (pv 0)) da_nil)) (dp_one (dp_cal (by exact cis_text) (by exact hr) (by decide) (by exact tk) (by rfl) (da_cons (dp_var (pv 0)) da_nil)))))))
theorem b_is_row (T : Txt P K mg A) (cis_value : CalD P w K mg base (MM K Tb pn cs) 3 "is_value" ["thing"] (s_is_value A)) (f : Addr) (cdv : Value) (A0 : Around) (outer : List Env) (s0 : Shared) (H : Hp) (E : XK) (hr : Room 3 (A0.deeper (envOfC "is_row" (defScope (top 123)) s0.heap.objs.size f cdv))) :
    PSs (XC P w K mg base N_is_row "is_row" (top 123) f cdv A0 outer s0 H E) (defBody (top 123)) (liftS (MM K Tb pn cs) (fun cls d _ H' => E cls d H') (t_is_row K A cs)) := by
  have tk : Takes (XC P w K mg base N_is_row "is_row" (top 123) f cdv A0 outer s0 H E) (fun cls d _ H => E cls d H) := takes_of rfl rfl rfl rfl
  have hp : PassesOwn (model P w) (XC P w K mg base N_is_row "is_row" (top 123) f cdv A0 outer s0 H E).A (XC P w K mg base N_is_row "is_row" (top 123) f cdv A0 outer s0 H E).env (XC P w K mg base N_is_row "is_row" (top 123) f cdv A0 outer s0 H E).xe := passes_of rfl
  exact (dss_cons (ds_if (dt_w (dw_or (dt_not (dt_val (dp_bfn call_isiS (drc_isiT rfl) (by rfl) T.n_isinstance PyProof.Rows.boot_isinstance (da_cons (dp_var (pv 0)) (da_cons (dp_tup (da_cons (dp_ty (by rfl) (by exact T.n_list) PyProof.Rows.boot_list) (da_cons (dp_ty (by rfl) (by exact T.n_tuple) PyProof.Rows.boot_tuple) da_nil))) da_nil))))) (dw_or1 (dt_cmp (op_eqX rfl (hu64 hr)) dr_eq (dp_bfn (call_len) (drc_len rfl) (by rfl) T.n_len PySem.boot_len (da_cons (dp_var (pv 0)) da_nil)) dp_int (nomark _))))) (dss_one (ds_ret dp_bl)) dss_nil)
      (dss_one (ds_ret (dp_bfn (cr_all rfl) (drc_all rfl) (by rfl) T.n_all PyProof.Rows.boot_all (da_cons (dp_lc (pe_lc (own := [("value", 1)]) rfl sc_is_row.nd (di_list rfl (dp_var (pv 0))) (blkOk_by (N := N_is_row) (sc := defScope (top 123)) (by decide +kernel)) (fun s H C cl fp => dg_of (pg_name (i := 1) sc_is_row.nd rfl (Or.inl rfl)) List.mem_cons_self) (fun s H C cl fp => by exact dts_nil) (fun s H C cl fp => by exact (dp_cal (by exact cis_value) (by exact hr) (by decide) (by exact LamX.takes0) (by rfl) (da_cons (dp_var (pv 1)) da_nil))))) da_nil)))))
theorem b_need_rows (T : Txt P K mg A) (cis_row : CalD P w K mg base (MM K Tb pn cs) 4 "is_row" ["thing"] (s_is_row A)) (cneed_items : CalD P w K mg base (MM K Tb pn cs) 2 "need_items" ["value"] (s_need_items A)) (f : Addr) (cdv : Value) (A0 : Around) (outer : List Env) (s0 : Shared) (H : Hp) (E : XK) (hr : Room 4 (A0.deeper (envOfC "need_rows" (defScope (top 124)) s0.heap.objs.size f cdv))) :
    PSs (XC P w K mg base N_need_rows "need_rows" (top 124) f cdv A0 outer s0 H E) (defBody (top 124)) (liftS (MM K Tb pn cs) (fun cls d _ H' => E cls d H') (t_need_rows K A cs)) := by
  have tk : Takes (XC P w K mg base N_need_rows "need_rows" (top 124) f cdv A0 outer s0 H E) (fun cls d _ H => E cls d H) := takes_of rfl rfl rfl rfl
  have hp : PassesOwn (model P w) (XC P w K mg base N_need_rows "need_rows" (top 124) f cdv A0 outer s0 H E).A (XC P w K mg base N_need_rows "need_rows" (top 124) f cdv A0 outer s0 H E).env (XC P w K mg base N_need_rows "need_rows" (top 124) f cdv A0 outer s0 H E).xe := passes_of rfl
  exact (dss_cons (ds_expr (dp_cal (by exact cneed_items) (by exact hr) (by decide) (by exact tk) (by rfl) (da_cons (dp_var (pv 0)) da_nil)))
      (dss_cons (ds_for (vs := [1]) hp rfl (di_list rfl (dp_var (pv 0))) (dg_of (pg_name (i := 1) sc_need_rows.nd rfl (Or.inl rfl)) List.mem_cons_self) (dss_one (ds_if (dt_not (dt_val (dp_cal (by exact cis_row) (by exact hr) (by decide) (by exact tk) (by rfl) (da_cons (dp_var (pv 1)) da_nil)))) (dss_one (ds_raise (ps_raiseErr rfl T.e_BadValue hr tk (da_cons (dp_var (pv 1)) da_nil) (by rfl) (by decide)))) dss_nil)))
      (dss_cons (ds_if (dt_w (dw_or (dt_cmp (op_eqX rfl (hu64 hr)) dr_eq (dp_bfn (call_len) (drc_len rfl) (by rfl) T.n_len PySem.boot_len (da_cons (dp_var (pv 0)) da_nil)) dp_int (nomark _)) (dw_or1 (dt_cmp op_gtX dr_ord (dp_mul (dp_bfn (call_len) (drc_len rfl) (by rfl) T.n_len PySem.boot_len (da_cons (dp_var (pv 0)) da_nil)) (dp_bfn (call_len) (drc_len rfl) (by rfl) T.n_len PySem.boot_len (da_cons (dp_ix rfl (dp_var (pv 0)) dp_int) da_nil))) (dp_gi T.g_MOST_VALUES rfl) (nomark _))))) (dss_one (ds_raise (ps_raiseErr rfl T.e_BadValue hr tk (da_cons (dp_var (pv 0)) da_nil) (by rfl) (by decide)))) dss_nil)
      (dss_one (ds_for (vs := [1]) hp rfl (di_list rfl (dp_var (pv 0))) (dg_of (pg_name (i := 1) sc_need_rows.nd rfl (Or.inl rfl)) List.mem_cons_self) (dss_one (ds_if (dt_cmp (op_neX rfl (hu64 hr)) dr_ne (dp_bfn (call_len) (drc_len rfl) (by rfl) T.n_len PySem.boot_len (da_cons (dp_var (pv 1)) da_nil)) (dp_bfn (call_len) (drc_len rfl) (by rfl) T.n_len PySem.boot_len (da_cons (dp_ix rfl (dp_var (pv 0)) dp_int) da_nil)) (nomark _)) (dss_one (ds_raise (ps_raiseErr rfl T.e_BadValue hr tk (da_cons (dp_var (pv 0)) da_nil) (by rfl) (by decide)))) dss_nil)))))))
theorem b_is_integer (T : Txt P K mg A)  (f : Addr) (cdv : Value) (A0 : Around) (outer : List Env) (s0 : Shared) (H : Hp) (E : XK) (hr : Room 1 (A0.deeper (envOfC "is_integer" (defScope (top 9)) s0.heap.objs.size f cdv))) :
    PSs (XC P w K mg base N_is_integer "is_integer" (top 9) f cdv A0 outer s0 H E) (defBody (top 9)) (liftS (MM K Tb pn cs) (fun cls d _ H' => E cls d H') (t_is_integer K A cs)) := by
  have tk : Takes (XC P w K mg base N_is_integer "is_integer" (top 9) f cdv A0 outer s0 H E) (fun cls d _ H => E cls d H) := takes_of rfl rfl rfl rfl
  have hp : PassesOwn (model P w) (XC P w K mg base N_is_integer "is_integer" (top 9) f cdv A0 outer s0 H E).A (XC P w K mg base N_is_integer "is_integer" (top 9) f cdv A0 outer s0 H E).env (XC P w K mg base N_is_integer "is_integer" (top 9) f cdv A0 outer s0 H E).xe := passes_of rfl
  exact (dss_one (ds_ret (dp_and (dp_bfn (call_isi) (drc_isi rfl) (by rfl) T.n_isinstance PyProof.Rows.boot_isinstance (da_cons (dp_var (pv 0)) (da_cons (dp_ty (by rfl) (by exact T.n_int) PyProof.Rows.boot_int) da_nil))) (dp_one (dp_not (dp_bfn (call_isi) (drc_isi rfl) (by rfl) T.n_isinstance PyProof.Rows.boot_isinstance (da_cons (dp_var (pv 0)) (da_cons (dp_ty (by rfl) (by exact T.n_bool) PyProof.Rows.boot_bool) da_nil))))))))
theorem b_is_corner (T : Txt P K mg A) (cis_integer : CalD P w K mg base (MM K Tb pn cs) 2 "is_integer" ["value"] (s_is_integer A)) (f : Addr) (cdv : Value) (A0 : Around) (outer : List Env) (s0 : Shared) (H : Hp) (E : XK) (hr : Room 2 (A0.deeper (envOfC "is_corner" (defScope (top 12)) s0.heap.objs.size f cdv))) :
    PSs (XC P w K mg base N_is_corner "is_corner" (top 12) f cdv A0 outer s0 H E) (defBody (top 12)) (liftS (MM K Tb pn cs) (fun cls d _ H' => E cls d H') (t_is_corner K A cs)) := by
  have tk : Takes (XC P w K mg base N_is_corner "is_corner" (top 12) f cdv A0 outer s0 H E) (fun cls d _ H => E cls d H) := takes_of rfl rfl rfl rfl
  have hp : PassesOwn (model P w) (XC P w K mg base N_is_corner "is_corner" (top 12) f cdv A0 outer s0 H E).A (XC P w K mg base N_is_corner "is_corner" (top 12) f cdv A0 outer s0 H E).env (XC P w K mg base N_is_corner "is_corner" (top 12) f cdv A0 outer s0 H E).xe := passes_of rfl
  exact (dss_cons (ds_if (dt_w (dw_or (dt_not (dt_val (dp_bfn call_isiS (drc_isiT rfl) (by rfl) T.n_isinstance PyProof.Rows.boot_isinstance (da_cons (dp_var (pv 0)) (da_cons (dp_tup (da_cons (dp_ty (by rfl) (by exact T.n_list) PyProof.Rows.boot_list) (da_cons (dp_ty (by rfl) (by exact T.n_tuple) PyProof.Rows.boot_tuple) da_nil))) da_nil))))) (dw_or1 (dt_cmp (op_neX rfl (hu64 hr)) dr_ne (dp_bfn (call_len) (drc_len rfl) (by rfl) T.n_len PySem.boot_len (da_cons (dp_var (pv 0)) da_nil)) dp_int (nomark _))))) (dss_one (ds_ret dp_bl)) dss_nil)
      (dss_one (ds_ret (dp_bfn (cr_all rfl) (drc_all rfl) (by rfl) T.n_all PyProof.Rows.boot_all (da_cons (dp_lc (pe_lc (own := [("part", 1)]) rfl sc_is_corner.nd (di_list rfl (dp_var (pv 0))) (blkOk_by (N := N_is_corner) (sc := defScope (top 12)) (by decide +kernel)) (fun s H C cl fp => dg_of (pg_name (i := 1) sc_is_corner.nd rfl (Or.inl rfl)) List.mem_cons_self) (fun s H C cl fp => by exact dts_nil) (fun s H C cl fp => by exact (dp_and (dp_cal (by exact cis_integer) (by exact hr) (by decide) (by exact LamX.takes0) (by rfl) (da_cons (dp_var (pv 1)) da_nil)) (dp_one (dp_cmp op_geX dr_ord (dp_var (pv 1)) dp_int (nomark _))))))) da_nil)))))
theorem b_Grid_init (T : Txt P K mg A) (cis_corner : CalD P w K mg base (MM K Tb pn cs) 3 "is_corner" ["value"] (s_is_corner A)) (cneed_rows : CalD P w K mg base (MM K Tb pn cs) 5 "need_rows" ["rows"] (s_need_rows A)) (f : Addr) (cdv : Value) (A0 : Around) (outer : List Env) (s0 : Shared) (H : Hp) (E : XK) (hr : Room 5 (A0.deeper (envOfC "Grid.__init__" (defScope (inClass (top 125) 0)) s0.heap.objs.size f cdv))) :
    PSs (XC P w K mg base N_Grid_init "Grid.__init__" (inClass (top 125) 0) f cdv A0 outer s0 H E) (defBody (inClass (top 125) 0)) (liftS (MM K Tb pn cs) (fun cls d _ H' => E cls d H') (t_Grid_init K A cs)) := by
  have tk : Takes (XC P w K mg base N_Grid_init "Grid.__init__" (inClass (top 125) 0) f cdv A0 outer s0 H E) (fun cls d _ H => E cls d H) := takes_of rfl rfl rfl rfl
  have hp : PassesOwn (model P w) (XC P w K mg base N_Grid_init "Grid.__init__" (inClass (top 125) 0) f cdv A0 outer s0 H E).A (XC P w K mg base N_Grid_init "Grid.__init__" (inClass (top 125) 0) f cdv A0 outer s0 H E).env (XC P w K mg base N_Grid_init "Grid.__init__" (inClass (top 125) 0) f cdv A0 outer s0 H E).xe := passes_of rfl
  exact (dss_cons (ds_expr (dp_cal (by exact cneed_rows) (by exact hr) (by decide) (by exact tk) (by rfl) (da_cons (dp_var (pv 1)) da_nil)))
      (dss_cons (ds_if (dt_w (dw_and (dt_cmp op_notN dr_notN (dp_var (pv 2)) dp_non (nomark _)) (dw_and1 (dt_not (dt_val (dp_cal (by exact cis_corner) (by exact hr) (by decide) (by exact tk) (by rfl) (da_cons (dp_var (pv 2)) da_nil))))))) (dss_one (ds_raise (ps_raiseErr rfl T.e_BadValue hr tk (da_cons (dp_var (pv 2)) da_nil) (by rfl) (by decide)))) dss_nil)
      (dss_cons (ds_asg (vs := []) (ps_asg (dp_bty call_tuple_of (drc_tuple rfl) (by rfl) T.n_tuple PyProof.Rows.boot_tuple (da_cons (dp_lc (pe_lc (own := [("row", 3)]) rfl sc_Grid_init.nd (di_list rfl (dp_var (pv 1))) (blkOk_by (N := N_Grid_init) (sc := defScope (inClass (top 125) 0)) (by decide +kernel)) (fun s H C cl fp => dg_of (pg_name (i := 3) sc_Grid_init.nd rfl (Or.inl rfl)) List.mem_cons_self) (fun s H C cl fp => by exact dts_nil) (fun s H C cl fp => by exact (dp_bty call_tuple_of (drc_tuple rfl) (by rfl) T.n_tuple PyProof.Rows.boot_tuple (da_cons (dp_var (pv 3)) da_nil))))) da_nil)) (dg_fld (W := W0) T.fl_rows (dp_var (pv 0)))))
      (dss_cons (ds_asg (vs := []) (ps_asg (dp_tup (da_cons (dp_bfn (call_len) (drc_len rfl) (by rfl) T.n_len PySem.boot_len (da_cons (dp_var (pv 1)) da_nil)) (da_cons (dp_bfn (call_len) (drc_len rfl) (by rfl) T.n_len PySem.boot_len (da_cons (dp_ix rfl (dp_var (pv 1)) dp_int) da_nil)) da_nil))) (dg_tup rfl rfl (dgs_cons (dg_fld (W := W0) T.fl_height (dp_var (pv 0))) (dgs_cons (dg_fld (W := W0) T.fl_width (dp_var (pv 0))) dgs_nil)))))
      (dss_cons (ds_asg (vs := []) (ps_asg (dp_var (pv 2)) (dg_fld (W := W0) T.fl_corner (dp_var (pv 0)))))
      (dss_one (ds_if (dt_cmp op_notN dr_notN (dp_var (pv 2)) dp_non (nomark _)) (dss_one (ds_asg (vs := []) (ps_asg (dp_bty call_tuple_of (drc_tuple rfl) (by rfl) T.n_tuple PyProof.Rows.boot_tuple (da_cons (dp_var (pv 2)) da_nil)) (dg_fld (W := W0) T.fl_corner (dp_var (pv 0)))))) dss_nil)))))))
theorem b_stretch (T : Txt P K mg A)  (f : Addr) (cdv : Value) (A0 : Around) (outer : List Env) (s0 : Shared) (H : Hp) (E : XK) (hr : Room 1 (A0.deeper (envOfC "stretch" (defScope (top 127)) s0.heap.objs.size f cdv))) :
    PSs (XC P w K mg base N_stretch "stretch" (top 127) f cdv A0 outer s0 H E) (defBody (top 127)) (liftS (MM K Tb pn cs) (fun cls d _ H' => E cls d H') (t_stretch K A cs)) := by
  have tk : Takes (XC P w K mg base N_stretch "stretch" (top 127) f cdv A0 outer s0 H E) (fun cls d _ H => E cls d H) := takes_of rfl rfl rfl rfl
  have hp : PassesOwn (model P w) (XC P w K mg base N_stretch "stretch" (top 127) f cdv A0 outer s0 H E).A (XC P w K mg base N_stretch "stretch" (top 127) f cdv A0 outer s0 H E).env (XC P w K mg base N_stretch "stretch" (top 127) f cdv A0 outer s0 H E).xe := passes_of rfl
  exact (dss_one (ds_ret (dp_tup (da_cons (dp_bfn (cr_max rfl) (drc_maxL rfl) (by rfl) T.n_max PyProof.Rows.boot_max (da_cons (dp_lc (pe_lc (own := [("grid", 1)]) rfl sc_stretch.nd (di_list rfl (dp_var (pv 0))) (blkOk_by (N := N_stretch) (sc := defScope (top 127)) (by decide +kernel)) (fun s H C cl fp => dg_of (pg_name (i := 1) sc_stretch.nd rfl (Or.inl rfl)) List.mem_cons_self) (fun s H C cl fp => by exact dts_nil) (fun s H C cl fp => by exact (dp_fld T.fl_height (dp_var (pv 1)))))) da_nil)) (da_cons (dp_bfn (cr_max rfl) (drc_maxL rfl) (by rfl) T.n_max PyProof.Rows.boot_max (da_cons (dp_lc (pe_lc (own := [("grid", 1)]) rfl sc_stretch.nd (di_list rfl (dp_var (pv 0))) (blkOk_by (N := N_stretch) (sc := defScope (top 127)) (by decide +kernel)) (fun s H C cl fp => dg_of (pg_name (i := 1) sc_stretch.nd rfl (Or.inl rfl)) List.mem_cons_self) (fun s H C cl fp => by exact dts_nil) (fun s H C cl fp => by exact (dp_fld T.fl_width (dp_var (pv 1)))))) da_nil)) da_nil)))))
theorem b_stretched (T : Txt P K mg A) (cneed_items : CalD P w K mg base (MM K Tb pn cs) 2 "need_items" ["value"] (s_need_items A)) (cstretch : CalD P w K mg base (MM K Tb pn cs) 2 "stretch" ["grids"] (s_stretch A)) (f : Addr) (cdv : Value) (A0 : Around) (outer : List Env) (s0 : Shared) (H : Hp) (E : XK) (hr : Room 2 (A0.deeper (envOfC "stretched" (defScope (top 129)) s0.heap.objs.size f cdv))) :
    PSs (XC P w K mg base N_stretched "stretched" (top 129) f cdv A0 outer s0 H E) (defBody (top 129)) (liftS (MM K Tb pn cs) (fun cls d _ H' => E cls d H') (t_stretched K A cs)) := by
  have tk : Takes (XC P w K mg base N_stretched "stretched" (top 129) f cdv A0 outer s0 H E) (fun cls d _ H => E cls d H) := takes_of rfl rfl rfl rfl
  have hp : PassesOwn (model P w) (XC P w K mg base N_stretched "stretched" (top 129) f cdv A0 outer s0 H E).A (XC P w K mg base N_stretched "stretched" (top 129) f cdv A0 outer s0 H E).env (XC P w K mg base N_stretched "stretched" (top 129) f cdv A0 outer s0 H E).xe := passes_of rfl
  exact (dss_cons (ds_expr (dp_cal (by exact cneed_items) (by exact hr) (by decide) (by exact tk) (by rfl) (da_cons (dp_var (pv 0)) da_nil)))
      (dss_cons (ds_for (vs := [1]) hp rfl (di_list rfl (dp_var (pv 0))) (dg_of (pg_name (i := 1) sc_stretched.nd rfl (Or.inl rfl)) List.mem_cons_self) (dss_one (ds_if (dt_not (dt_val (dp_bfn (call_isi) (drc_isi rfl) (by rfl) T.n_isinstance PyProof.Rows.boot_isinstance (da_cons (dp_var (pv 1)) (da_cons (dp_cls (by rfl) (by exact T.c_Grid)) da_nil))))) (dss_one (ds_raise (ps_raiseErr rfl T.e_BadValue hr tk (da_cons (dp_var (pv 1)) da_nil) (by rfl) (by decide)))) dss_nil)))
      (dss_cons (ds_if (dt_cmp (op_eqX rfl (hu64 hr)) dr_eq (dp_bfn (call_len) (drc_len rfl) (by rfl) T.n_len PySem.boot_len (da_cons (dp_var (pv 0)) da_nil)) dp_int (nomark _)) (dss_one (ds_raise (ps_raiseErr rfl T.e_BadValue hr tk (da_cons (dp_var (pv 0)) da_nil) (by rfl) (by decide)))) dss_nil)
      (dss_one (ds_ret (dp_cal (by exact cstretch) (by exact hr) (by decide) (by exact tk) (by rfl) (da_cons (dp_var (pv 0)) da_nil)))))))
theorem b__law_draw (T : Txt P K mg A)  (f : Addr) (cdv : Value) (A0 : Around) (outer : List Env) (s0 : Shared) (H : Hp) (E : XK) (hr : Room 1 (A0.deeper (envOfC "_law_draw" (defScope (top 133)) s0.heap.objs.size f cdv))) :
    PSs (XC P w K mg base N__law_draw "_law_draw" (top 133) f cdv A0 outer s0 H E) (defBody (top 133)) (liftS (MM K Tb pn cs) (fun cls d _ H' => E cls d H') (t__law_draw K A cs)) := by
  have tk : Takes (XC P w K mg base N__law_draw "_law_draw" (top 133) f cdv A0 outer s0 H E) (fun cls d _ H => E cls d H) := takes_of rfl rfl rfl rfl
  have hp : PassesOwn (model P w) (XC P w K mg base N__law_draw "_law_draw" (top 133) f cdv A0 outer s0 H E).A (XC P w K mg base N__law_draw "_law_draw" (top 133) f cdv A0 outer s0 H E).env (XC P w K mg base N__law_draw "_law_draw" (top 133) f cdv A0 outer s0 H E).xe := passes_of rfl
  exact (dss_cons (ds_if (dt_cmp op_gtX dr_ord (dp_penl KO (hu_of hr) (dp_var (pv 0)) pe_str (fun _ _ => rfl)) dp_int (nomark _)) (dss_cons (ds_set (ps_set (i := 2) sc__law_draw.nd rfl (Or.inl rfl) (dp_mod (dp_bty (call_int1) (drc_int) (by rfl) T.n_int PyProof.Rows.boot_int (da_cons (dp_penl KO (hu_of hr) (dp_var (pv 0)) pe_str (fun _ _ => rfl)) da_nil)) (dp_var (pv 1)))))
      (dss_cons (ds_putl KO (hu_of hr) (dp_var (pv 0)) pe_str (dp_div (dp_penl KO (hu_of hr) (dp_var (pv 0)) pe_str (fun _ _ => rfl)) (dp_var (pv 1))))
      (dss_one (ds_ret (dp_var (pv 2)))))) dss_nil)
      (dss_cons (ds_set (ps_set (i := 3) sc__law_draw.nd rfl (Or.inl rfl) (dp_pena KO (hu_of hr) (dp_var (pv 0)) pe_str (fun _ _ => rfl))))
      (dss_cons (ds_puta KO (hu_of hr) (dp_var (pv 0)) pe_str (dp_add rfl (dp_var (pv 3)) dp_int))
      (dss_cons (ds_set (ps_set (i := 4) sc__law_draw.nd rfl (Or.inl rfl) (dp_add rfl (dp_mul dp_int (dp_var (pv 3))) dp_int)))
      (dss_cons (ds_if (dt_cmp (op_neX rfl (hu64 hr)) dr_ne (dp_penc (hu_of hr) (dp_var (pv 0)) pe_str (fun _ _ => rfl)) (dp_lst da_nil) (nomark _)) (dss_one (ds_set (ps_set (i := 4) sc__law_draw.nd rfl (Or.inl rfl) (dp_ix rfl (dp_penc (hu_of hr) (dp_var (pv 0)) pe_str (fun _ _ => rfl)) (dp_mod (dp_bty (call_int1) (drc_int) (by rfl) T.n_int PyProof.Rows.boot_int (da_cons (dp_var (pv 3)) da_nil)) (dp_bfn (call_len) (drc_len rfl) (by rfl) T.n_len PySem.boot_len (da_cons (dp_penc (hu_of hr) (dp_var (pv 0)) pe_str (fun _ _ => rfl)) da_nil))))))) dss_nil)
      (dss_cons (ds_if (dt_w (dw_and (dt_cmp op_ltX dr_ord (dp_var (pv 3)) (dp_bfn (call_len) (drc_len rfl) (by rfl) T.n_len PySem.boot_len (da_cons (dp_penc (hu_of hr) (dp_var (pv 0)) pe_str (fun _ _ => rfl)) da_nil)) (nomark _)) (dw_and1 (dt_cmp op_geX dr_ord (dp_bfn (call_abs) (drc_abs) (by rfl) T.n_abs boot_abs (da_cons (dp_var (pv 4)) da_nil)) (dp_pow dp_int dp_int) (nomark _))))) (dss_cons (ds_putl KO (hu_of hr) (dp_var (pv 0)) pe_str (dp_div (dp_sub (dp_bfn (call_abs) (drc_abs) (by rfl) T.n_abs boot_abs (da_cons (dp_var (pv 4)) da_nil)) (dp_pow dp_int dp_int)) (dp_var (pv 1))))
      (dss_one (ds_ret (dp_mod (dp_bty (call_int1) (drc_int) (by rfl) T.n_int PyProof.Rows.boot_int (da_cons (dp_sub (dp_bfn (call_abs) (drc_abs) (by rfl) T.n_abs boot_abs (da_cons (dp_var (pv 4)) da_nil)) (dp_pow dp_int dp_int)) da_nil)) (dp_var (pv 1)))))) dss_nil)
      (dss_cons (ds_set (ps_set (i := 5) sc__law_draw.nd rfl (Or.inl rfl) (dp_add rfl (dp_mul (dp_mod (dp_bty (call_int1) (drc_int) (by rfl) T.n_int PyProof.Rows.boot_int (da_cons (dp_var (pv 4)) da_nil)) dp_int) dp_int) (dp_mul (dp_mul dp_int (dp_var (pv 3))) (dp_var (pv 3))))))
      (dss_cons (ds_set (ps_set (i := 5) sc__law_draw.nd rfl (Or.inl rfl) (dp_mod (dp_bty (call_int1) (drc_int) (by rfl) T.n_int PyProof.Rows.boot_int (da_cons (dp_add rfl (dp_add rfl (dp_var (pv 5)) (dp_mul dp_int (dp_var (pv 3)))) dp_int) da_nil)) dp_int)))
      (dss_cons (ds_set (ps_set (i := 5) sc__law_draw.nd rfl (Or.inl rfl) (dp_mod (dp_bty (call_int1) (drc_int) (by rfl) T.n_int PyProof.Rows.boot_int (da_cons (dp_add rfl (dp_add rfl (dp_add rfl (dp_mul (dp_var (pv 5)) (dp_var (pv 5))) (dp_mul dp_int (dp_var (pv 5)))) (dp_mul dp_int (dp_var (pv 3)))) dp_int) da_nil)) dp_int)))
      (dss_cons (ds_set (ps_set (i := 5) sc__law_draw.nd rfl (Or.inl rfl) (dp_mod (dp_bty (call_int1) (drc_int) (by rfl) T.n_int PyProof.Rows.boot_int (da_cons (dp_add rfl (dp_add rfl (dp_mul (dp_var (pv 5)) (dp_var (pv 5))) (dp_mul dp_int (dp_var (pv 5)))) (dp_var (pv 3))) da_nil)) dp_int)))
      (dss_one (ds_ret (dp_mod (dp_bty (call_int1) (drc_int) (by rfl) T.n_int PyProof.Rows.boot_int (da_cons (dp_div (dp_mod (dp_bty (call_int1) (drc_int) (by rfl) T.n_int PyProof.Rows.boot_int (da_cons (dp_mul (dp_var (pv 5)) (dp_add rfl (dp_var (pv 5)) dp_int)) da_nil)) dp_int) dp_int) da_nil)) (dp_var (pv 1)))))))))))))))
theorem b__law_pick (T : Txt P K mg A) (c_law_draw : CalD P w K mg base (MM K Tb pn cs) 2 "_law_draw" ["_law_pen", "_law_span"] (s__law_draw A)) (f : Addr) (cdv : Value) (A0 : Around) (outer : List Env) (s0 : Shared) (H : Hp) (E : XK) (hr : Room 2 (A0.deeper (envOfC "_law_pick" (defScope (top 134)) s0.heap.objs.size f cdv))) :
    PSs (XC P w K mg base N__law_pick "_law_pick" (top 134) f cdv A0 outer s0 H E) (defBody (top 134)) (liftS (MM K Tb pn cs) (fun cls d _ H' => E cls d H') (t__law_pick K A cs)) := by
  have tk : Takes (XC P w K mg base N__law_pick "_law_pick" (top 134) f cdv A0 outer s0 H E) (fun cls d _ H => E cls d H) := takes_of rfl rfl rfl rfl
  have hp : PassesOwn (model P w) (XC P w K mg base N__law_pick "_law_pick" (top 134) f cdv A0 outer s0 H E).A (XC P w K mg base N__law_pick "_law_pick" (top 134) f cdv A0 outer s0 H E).env (XC P w K mg base N__law_pick "_law_pick" (top 134) f cdv A0 outer s0 H E).xe := passes_of rfl
  exact (dss_one (ds_ret (dp_ix rfl (dp_var (pv 1)) (dp_cal (by exact c_law_draw) (by exact hr) (by decide) (by exact tk) (by rfl) (da_cons (dp_var (pv 0)) (da_cons (dp_bfn (call_len) (drc_len rfl) (by rfl) T.n_len PySem.boot_len (da_cons (dp_var (pv 1)) da_nil)) da_nil))))))
theorem b_Ratio_eq (T : Txt P K mg A)  (f : Addr) (cdv : Value) (A0 : Around) (outer : List Env) (s0 : Shared) (H : Hp) (E : XK) (hr : Room 1 (A0.deeper (envOfC "Ratio.__eq__" (defScope (inClass (top 17) 1)) s0.heap.objs.size f cdv))) :
    PSs (XC P w K mg base N_Ratio_eq "Ratio.__eq__" (inClass (top 17) 1) f cdv A0 outer s0 H E) (defBody (inClass (top 17) 1)) (liftS (MM K Tb pn cs) (fun cls d _ H' => E cls d H') (t_Ratio_eq K A cs)) := by
  have tk : Takes (XC P w K mg base N_Ratio_eq "Ratio.__eq__" (inClass (top 17) 1) f cdv A0 outer s0 H E) (fun cls d _ H => E cls d H) := takes_of rfl rfl rfl rfl
  have hp : PassesOwn (model P w) (XC P w K mg base N_Ratio_eq "Ratio.__eq__" (inClass (top 17) 1) f cdv A0 outer s0 H E).A (XC P w K mg base N_Ratio_eq "Ratio.__eq__" (inClass (top 17) 1) f cdv A0 outer s0 H E).env (XC P w K mg base N_Ratio_eq "Ratio.__eq__" (inClass (top 17) 1) f cdv A0 outer s0 H E).xe := passes_of rfl
  exact (dss_one (ds_ret (dp_and (dp_bfn (call_isi) (drc_isi rfl) (by rfl) T.n_isinstance PyProof.Rows.boot_isinstance (da_cons (dp_var (pv 1)) (da_cons (dp_cls (by rfl) (by exact T.c_Ratio)) da_nil))) (dp_and (dp_cmp (op_eqX rfl (hu64 hr)) dr_eq (dp_fld T.fl_top (dp_var (pv 0))) (dp_fld T.fl_top (dp_var (pv 1))) (nomark _)) (dp_one (dp_cmp (op_eqX rfl (hu64 hr)) dr_eq (dp_fld T.fl_bottom (dp_var (pv 0))) (dp_fld T.fl_bottom (dp_var (pv 1))) (nomark _)))))))
theorem bh_Ratio_eq (T : Txt P K mg A)  (f : Addr) (cdv : Value) (A0 : Around) (outer : List Env) (s0 : Shared) (H : Hp) (E : XK) (hr : L2H.RoomH 1 (A0.deeper (envOfC "Ratio.__eq__" (defScope (inClass (top 17) 1)) s0.heap.objs.size f cdv))) :
    PSs (XN P w K mg base N_Ratio_eq "Ratio.__eq__" (inClass (top 17) 1) f cdv A0 outer s0 H E) (defBody (inClass (top 17) 1)) (liftS (MM K Tb pn cs) (fun cls d _ H' => E cls d H') (t_Ratio_eq K A cs)) := by
  exact (dss_one (ds_ret (dp_and (dp_bfn (call_isi) (drc_isi rfl) (by rfl) T.n_isinstance PyProof.Rows.boot_isinstance (da_cons (dp_var (pv 1)) (da_cons (dp_cls (by rfl) (by exact T.c_Ratio)) da_nil))) (dp_and (dp_cmp (op_eqX rfl (hu64N hr)) dr_eq (dp_fld T.fl_top (dp_var (pv 0))) (dp_fld T.fl_top (dp_var (pv 1))) (nomark _)) (dp_one (dp_cmp (op_eqX rfl (hu64N hr)) dr_eq (dp_fld T.fl_bottom (dp_var (pv 0))) (dp_fld T.fl_bottom (dp_var (pv 1))) (nomark _)))))))
theorem b_Fault_eq (T : Txt P K mg A)  (f : Addr) (cdv : Value) (A0 : Around) (outer : List Env) (s0 : Shared) (H : Hp) (E : XK) (hr : Room 1 (A0.deeper (envOfC "Fault.__eq__" (defScope (inClass (top 117) 1)) s0.heap.objs.size f cdv))) :
    PSs (XC P w K mg base N_Fault_eq "Fault.__eq__" (inClass (top 117) 1) f cdv A0 outer s0 H E) (defBody (inClass (top 117) 1)) (liftS (MM K Tb pn cs) (fun cls d _ H' => E cls d H') (t_Fault_eq K A cs)) := by
  have tk : Takes (XC P w K mg base N_Fault_eq "Fault.__eq__" (inClass (top 117) 1) f cdv A0 outer s0 H E) (fun cls d _ H => E cls d H) := takes_of rfl rfl rfl rfl
  have hp : PassesOwn (model P w) (XC P w K mg base N_Fault_eq "Fault.__eq__" (inClass (top 117) 1) f cdv A0 outer s0 H E).A (XC P w K mg base N_Fault_eq "Fault.__eq__" (inClass (top 117) 1) f cdv A0 outer s0 H E).env (XC P w K mg base N_Fault_eq "Fault.__eq__" (inClass (top 117) 1) f cdv A0 outer s0 H E).xe := passes_of rfl
  exact (dss_one (ds_ret (dp_and (dp_bfn (call_isi) (drc_isi rfl) (by rfl) T.n_isinstance PyProof.Rows.boot_isinstance (da_cons (dp_var (pv 1)) (da_cons (dp_cls (by rfl) (by exact T.c_Fault)) da_nil))) (dp_one (dp_cmp (op_eqX rfl (hu64 hr)) dr_eq (dp_fld T.fl_kind (dp_var (pv 0))) (dp_fld T.fl_kind (dp_var (pv 1))) (nomark _))))))
theorem bh_Fault_eq (T : Txt P K mg A)  (f : Addr) (cdv : Value) (A0 : Around) (outer : List Env) (s0 : Shared) (H : Hp) (E : XK) (hr : L2H.RoomH 1 (A0.deeper (envOfC "Fault.__eq__" (defScope (inClass (top 117) 1)) s0.heap.objs.size f cdv))) :
    PSs (XN P w K mg base N_Fault_eq "Fault.__eq__" (inClass (top 117) 1) f cdv A0 outer s0 H E) (defBody (inClass (top 117) 1)) (liftS (MM K Tb pn cs) (fun cls d _ H' => E cls d H') (t_Fault_eq K A cs)) := by
  exact (dss_one (ds_ret (dp_and (dp_bfn (call_isi) (drc_isi rfl) (by rfl) T.n_isinstance PyProof.Rows.boot_isinstance (da_cons (dp_var (pv 1)) (da_cons (dp_cls (by rfl) (by exact T.c_Fault)) da_nil))) (dp_one (dp_cmp (op_eqX rfl (hu64N hr)) dr_eq (dp_fld T.fl_kind (dp_var (pv 0))) (dp_fld T.fl_kind (dp_var (pv 1))) (nomark _))))))
theorem b_Grid_eq (T : Txt P K mg A) (cFault_eq : EqD P w K mg base (MM K Tb pn cs) 2 A.Fault (s_Fault_eq A)) (cRatio_eq : EqD P w K mg base (MM K Tb pn cs) 2 A.Ratio (s_Ratio_eq A)) (f : Addr) (cdv : Value) (A0 : Around) (outer : List Env) (s0 : Shared) (H : Hp) (E : XK) (hr : Room 8 (A0.deeper (envOfC "Grid.__eq__" (defScope (inClass (top 125) 1)) s0.heap.objs.size f cdv))) :
    PSs (XC P w K mg base N_Grid_eq "Grid.__eq__" (inClass (top 125) 1) f cdv A0 outer s0 H E) (defBody (inClass (top 125) 1)) (liftS (MM K Tb pn cs) (fun cls d _ H' => E cls d H') (t_Grid_eq K A cs)) := by
  have tk : Takes (XC P w K mg base N_Grid_eq "Grid.__eq__" (inClass (top 125) 1) f cdv A0 outer s0 H E) (fun cls d _ H => E cls d H) := takes_of rfl rfl rfl rfl
  have hp : PassesOwn (model P w) (XC P w K mg base N_Grid_eq "Grid.__eq__" (inClass (top 125) 1) f cdv A0 outer s0 H E).A (XC P w K mg base N_Grid_eq "Grid.__eq__" (inClass (top 125) 1) f cdv A0 outer s0 H E).env (XC P w K mg base N_Grid_eq "Grid.__eq__" (inClass (top 125) 1) f cdv A0 outer s0 H E).xe := passes_of rfl
  exact (dss_one (ds_ret (dp_and (dp_bfn (call_isi) (drc_isi rfl) (by rfl) T.n_isinstance PyProof.Rows.boot_isinstance (da_cons (dp_var (pv 1)) (da_cons (dp_cls (by rfl) (by exact T.c_Grid)) da_nil))) (dp_one (dp_cmp (op_eqS (k := 2) rfl (eqDs_cons (by exact cRatio_eq) (by decide) (eqDs_cons (by exact cFault_eq) (by decide) eqDs_nil)) (by exact hr) (by decide)) dr_eqS (dp_fld T.fl_rows (dp_var (pv 0))) (dp_fld T.fl_rows (dp_var (pv 1))) (nomark _))))))
theorem bh_Grid_eq (T : Txt P K mg A) (cFault_eqN : EqDN P w K mg base (MM K Tb pn cs) 2 A.Fault (s_Fault_eq A)) (cRatio_eqN : EqDN P w K mg base (MM K Tb pn cs) 2 A.Ratio (s_Ratio_eq A)) (f : Addr) (cdv : Value) (A0 : Around) (outer : List Env) (s0 : Shared) (H : Hp) (E : XK) (hr : L2H.RoomH 8 (A0.deeper (envOfC "Grid.__eq__" (defScope (inClass (top 125) 1)) s0.heap.objs.size f cdv))) :
    PSs (XN P w K mg base N_Grid_eq "Grid.__eq__" (inClass (top 125) 1) f cdv A0 outer s0 H E) (defBody (inClass (top 125) 1)) (liftS (MM K Tb pn cs) (fun cls d _ H' => E cls d H') (t_Grid_eq K A cs)) := by
  exact (dss_one (ds_ret (dp_and (dp_bfn (call_isi) (drc_isi rfl) (by rfl) T.n_isinstance PyProof.Rows.boot_isinstance (da_cons (dp_var (pv 1)) (da_cons (dp_cls (by rfl) (by exact T.c_Grid)) da_nil))) (dp_one (dp_cmp (op_eqSN (k := 2) rfl (eqDNs_cons (by exact cRatio_eqN) (by decide) (eqDNs_cons (by exact cFault_eqN) (by decide) eqDNs_nil)) (by exact hr) (by decide)) dr_eqS (dp_fld T.fl_rows (dp_var (pv 0))) (dp_fld T.fl_rows (dp_var (pv 1))) (nomark _))))))
theorem told_ok {X : Cx} {W : WX} (T : Txt X.prog X.K X.mg A) (cGrid_eqN : EqDN X.prog X.w X.K X.mg X.base (MM X.K Tb pn cs) 9 A.Grid (s_Grid_eq A)) (hr0 : Room 16 X.A) (tk : Takes X W) {q : Str} (g : Addr) : LamX.GivesS2 X N__law_refused "_law_refused" (defScope (top 139)) g (.ref A.k_law_refused) (defBody (top 139)) "_law_call" q (TTd2 (MM X.K Tb pn cs) (s_law_refused A)) :=
  gives_D2 (M := MM X.K Tb pn cs) (fun f c σ δ fb => t__law_refused X.K A f c q σ δ fb) (by decide) (fun s H f c σ δ fb act => (dss_cons (ds_try rfl rfl rfl sc_law_refused.nd LamX.takes0 (fun W2 pn xe tk2 hp2 => by exact (dss_one (ds_expr (act W2 pn xe _ _ tk2)))) (HdsAs.cons (i := 2) rfl rfl ⟨rfl, by decide, .inl T.c_BadValue⟩ (fun a oe cls d pn hz hf => by exact (dss_one (ds_ret (dp_cmp (op_eqSN (k := 9) rfl (eqDNs_cons (by exact cGrid_eqN) (by decide) eqDNs_nil) (by exact room_suite (hr0.deeper _)) (by decide)) dr_eqS (dp_xf (pe_xf (by exact T.xf_BadValue) (by exact T.no_BadValue_value) hz hf (dp_var (pv 2)))) (dp_var (pv 1)) (nomark _))))) HdsAs.nil))
      (dss_one (ds_ret dp_bl)))) (fun f c σ δ fb y n qd h => p__law_refused T h)
theorem b_Fault_init (T : Txt P K mg A)  (f : Addr) (cdv : Value) (A0 : Around) (outer : List Env) (s0 : Shared) (H : Hp) (E : XK) (hr : Room 1 (A0.deeper (envOfC "Fault.__init__" (defScope (inClass (top 117) 0)) s0.heap.objs.size f cdv))) :
    PSs (XC P w K mg base N_Fault_init "Fault.__init__" (inClass (top 117) 0) f cdv A0 outer s0 H E) (defBody (inClass (top 117) 0)) (liftS (MM K Tb pn cs) (fun cls d _ H' => E cls d H') (t_Fault_init K A cs)) := by
  have tk : Takes (XC P w K mg base N_Fault_init "Fault.__init__" (inClass (top 117) 0) f cdv A0 outer s0 H E) (fun cls d _ H => E cls d H) := takes_of rfl rfl rfl rfl
  have hp : PassesOwn (model P w) (XC P w K mg base N_Fault_init "Fault.__init__" (inClass (top 117) 0) f cdv A0 outer s0 H E).A (XC P w K mg base N_Fault_init "Fault.__init__" (inClass (top 117) 0) f cdv A0 outer s0 H E).env (XC P w K mg base N_Fault_init "Fault.__init__" (inClass (top 117) 0) f cdv A0 outer s0 H E).xe := passes_of rfl
  exact (dss_cons (ds_if (dt_w (dw_or (dt_not (dt_val (dp_bfn (call_isi) (drc_isi rfl) (by rfl) T.n_isinstance PyProof.Rows.boot_isinstance (da_cons (dp_var (pv 1)) (da_cons (dp_ty (by rfl) (by exact T.n_str) PyProof.Rows.boot_str) da_nil))))) (dw_or1 (dt_cmp (op_notInX rfl) dr_notInX (dp_var (pv 1)) (dp_gt T.g_FAULT_KINDS rfl (fun _ => by simp only [DL.IsL, Is, and_self]) (by rfl)) (by with_unfolding_all rfl))))) (dss_one (ds_raise (ps_raiseErr rfl T.e_BadValue hr tk (da_cons (dp_var (pv 1)) da_nil) (by rfl) (by decide)))) dss_nil)
      (dss_one (ds_asg (vs := []) (ps_asg (dp_var (pv 1)) (dg_fld (W := W0) T.fl_kind (dp_var (pv 0)))))))
theorem b_part_within (T : Txt P K mg A) (cFault_new0 : NewD P w K mg base (MM K Tb pn cs) 2 "Fault" 1 [] g_Fault_new0 (s_Fault A)) (f : Addr) (cdv : Value) (A0 : Around) (outer : List Env) (s0 : Shared) (H : Hp) (E : XK) (hr : Room 3 (A0.deeper (envOfC "part_within" (defScope (top 128)) s0.heap.objs.size f cdv))) :
    PSs (XC P w K mg base N_part_within "part_within" (top 128) f cdv A0 outer s0 H E) (defBody (top 128)) (liftS (MM K Tb pn cs) (fun cls d _ H' => E cls d H') (t_part_within K A cs)) := by
  have tk : Takes (XC P w K mg base N_part_within "part_within" (top 128) f cdv A0 outer s0 H E) (fun cls d _ H => E cls d H) := takes_of rfl rfl rfl rfl
  have hp : PassesOwn (model P w) (XC P w K mg base N_part_within "part_within" (top 128) f cdv A0 outer s0 H E).A (XC P w K mg base N_part_within "part_within" (top 128) f cdv A0 outer s0 H E).env (XC P w K mg base N_part_within "part_within" (top 128) f cdv A0 outer s0 H E).xe := passes_of rfl
  exact (dss_cons (ds_set (ps_set (i := 3) sc_part_within.nd rfl (Or.inl rfl) (dp_if (dt_cmp (op_eqX rfl (hu64 hr)) dr_eq (dp_fld T.fl_height (dp_var (pv 0))) dp_int (nomark _)) dp_int (dp_var (pv 1)))))
      (dss_cons (ds_set (ps_set (i := 4) sc_part_within.nd rfl (Or.inl rfl) (dp_if (dt_cmp (op_eqX rfl (hu64 hr)) dr_eq (dp_fld T.fl_width (dp_var (pv 0))) dp_int (nomark _)) dp_int (dp_var (pv 2)))))
      (dss_cons (ds_if (dt_w (dw_or (dt_cmp op_gtX dr_ord (dp_var (pv 3)) (dp_fld T.fl_height (dp_var (pv 0))) (nomark _)) (dw_or1 (dt_cmp op_gtX dr_ord (dp_var (pv 4)) (dp_fld T.fl_width (dp_var (pv 0))) (nomark _))))) (dss_one (ds_ret (dp_newP (by exact cFault_new0) (by exact hr) (by decide) (by exact tk) (by rfl) (da_cons (dp_str [78, 65]) da_nil)))) dss_nil)
      (dss_one (ds_ret (dp_ix rfl (dp_ix rfl (dp_fld T.fl_rows (dp_var (pv 0))) (dp_sub (dp_var (pv 3)) dp_int)) (dp_sub (dp_var (pv 4)) dp_int)))))))
theorem b_part_at (T : Txt P K mg A) (cis_integer : CalD P w K mg base (MM K Tb pn cs) 2 "is_integer" ["value"] (s_is_integer A)) (cpart_within : CalD P w K mg base (MM K Tb pn cs) 4 "part_within" ["grid", "row", "column"] (s_part_within A)) (f : Addr) (cdv : Value) (A0 : Around) (outer : List Env) (s0 : Shared) (H : Hp) (E : XK) (hr : Room 4 (A0.deeper (envOfC "part_at" (defScope (top 130)) s0.heap.objs.size f cdv))) :
    PSs (XC P w K mg base N_part_at "part_at" (top 130) f cdv A0 outer s0 H E) (defBody (top 130)) (liftS (MM K Tb pn cs) (fun cls d _ H' => E cls d H') (t_part_at K A cs)) := by
  have tk : Takes (XC P w K mg base N_part_at "part_at" (top 130) f cdv A0 outer s0 H E) (fun cls d _ H => E cls d H) := takes_of rfl rfl rfl rfl
  have hp : PassesOwn (model P w) (XC P w K mg base N_part_at "part_at" (top 130) f cdv A0 outer s0 H E).A (XC P w K mg base N_part_at "part_at" (top 130) f cdv A0 outer s0 H E).env (XC P w K mg base N_part_at "part_at" (top 130) f cdv A0 outer s0 H E).xe := passes_of rfl
  exact (dss_cons (ds_if (dt_not (dt_val (dp_bfn (call_isi) (drc_isi rfl) (by rfl) T.n_isinstance PyProof.Rows.boot_isinstance (da_cons (dp_var (pv 0)) (da_cons (dp_cls (by rfl) (by exact T.c_Grid)) da_nil))))) (dss_one (ds_raise (ps_raiseErr rfl T.e_BadValue hr tk (da_cons (dp_var (pv 0)) da_nil) (by rfl) (by decide)))) dss_nil)
      (dss_cons (ds_for (vs := [3]) hp rfl (di_list rfl (dp_tup (da_cons (dp_var (pv 1)) (da_cons (dp_var (pv 2)) da_nil)))) (dg_of (pg_name (i := 3) sc_part_at.nd rfl (Or.inl rfl)) List.mem_cons_self) (dss_one (ds_if (dt_w (dw_or (dt_not (dt_val (dp_cal (by exact cis_integer) (by exact hr) (by decide) (by exact tk) (by rfl) (da_cons (dp_var (pv 3)) da_nil)))) (dw_or1 (dt_cmp op_ltX dr_ord (dp_var (pv 3)) dp_int (nomark _))))) (dss_one (ds_raise (ps_raiseErr rfl T.e_BadValue hr tk (da_cons (dp_var (pv 3)) da_nil) (by rfl) (by decide)))) dss_nil)))
      (dss_one (ds_ret (dp_cal (by exact cpart_within) (by exact hr) (by decide) (by exact tk) (by rfl) (da_cons (dp_var (pv 0)) (da_cons (dp_var (pv 1)) (da_cons (dp_var (pv 2)) da_nil))))))))
theorem b__law_are_refused (T : Txt P K mg A) (cGrid_eqN : EqDN P w K mg base (MM K Tb pn cs) 9 A.Grid (s_Grid_eq A)) (c_law_pick : CalD P w K mg base (MM K Tb pn cs) 3 "_law_pick" ["_law_pen", "_law_some"] (s__law_pick A)) (cpart_at : CalD P w K mg base (MM K Tb pn cs) 5 "part_at" ["grid", "row", "column"] (s_part_at A)) (cstretched : CalD P w K mg base (MM K Tb pn cs) 3 "stretched" ["grids"] (s_stretched A)) (TB : LamX.TabB base mg A.k_law_are_refused A.p_law_are_refused) (TM : (A.p_law_are_refused, (("_law_are_refused" : Str) ++ ".<locals>." ++ "<lambda>")) ∈ Tb) (TU : ∀ p ∈ Tb, p.1 = A.p_law_are_refused → p.2 = (("_law_are_refused" : Str) ++ ".<locals>." ++ "<lambda>")) (f : Addr) (A0 : Around) (outer : List Env) (s0 : Shared) (H : Hp) (E : XK) (hr : Room 19 (A0.deeper (envOfC "_law_are_refused" (defScope (top 140)) s0.heap.objs.size f (.ref A.k_law_are_refused)))) :
    PSs (XC P w K mg base N__law_are_refused "_law_are_refused" (top 140) f (.ref A.k_law_are_refused) A0 outer s0 H E) (defBody (top 140)) (liftS (MM K Tb pn cs) (fun cls d _ H' => E cls d H') (t__law_are_refused K A cs (XC P w K mg base N__law_are_refused "_law_are_refused" (top 140) f (.ref A.k_law_are_refused) A0 outer s0 H E).env.cells Lm__law_are_refused)) := by
  have tk : Takes (XC P w K mg base N__law_are_refused "_law_are_refused" (top 140) f (.ref A.k_law_are_refused) A0 outer s0 H E) (fun cls d _ H => E cls d H) := takes_of rfl rfl rfl rfl
  have hp : PassesOwn (model P w) (XC P w K mg base N__law_are_refused "_law_are_refused" (top 140) f (.ref A.k_law_are_refused) A0 outer s0 H E).A (XC P w K mg base N__law_are_refused "_law_are_refused" (top 140) f (.ref A.k_law_are_refused) A0 outer s0 H E).env (XC P w K mg base N__law_are_refused "_law_are_refused" (top 140) f (.ref A.k_law_are_refused) A0 outer s0 H E).xe := passes_of rfl
  exact (dss_forg (dss_cons (ds_asg (vs := [2, 3]) (ps_asg (dp_tup (da_cons (dp_cal (by exact c_law_pick) (by exact hr) (by decide) (by exact tk) (by rfl) (da_cons (dp_var (pv 0)) (da_cons (dp_lst (da_cons dp_non (da_cons dp_int (da_cons (dp_str [65, 49]) (da_cons (dp_lst (da_cons (dp_lst (da_cons dp_int da_nil)) da_nil)) (da_cons dp_bl da_nil)))))) da_nil))) (da_cons (dp_cal (by exact c_law_pick) (by exact hr) (by decide) (by exact tk) (by rfl) (da_cons (dp_var (pv 0)) (da_cons (dp_lst (da_cons dp_int (da_cons (dp_neg dp_int) (da_cons (dp_str [49]) (da_cons dp_non (da_cons dp_bl (da_cons (dp_neg (dp_pow dp_int dp_int)) da_nil))))))) da_nil))) da_nil))) (dg_tup rfl rfl (dgs_cons (dg_of (pg_name (i := 2) sc__law_are_refused.nd rfl (Or.inr rfl)) List.mem_cons_self) (dgs_cons (dg_of (pg_name (i := 3) sc__law_are_refused.nd rfl (Or.inr rfl)) (List.mem_cons_of_mem _ List.mem_cons_self)) dgs_nil)))))
      (dss_cons (ds_set (ps_set (i := 4) sc__law_are_refused.nd rfl (Or.inl rfl) (dp_lstM (da_cons (dp_tup (da_cons (dp_lamV TB (by rfl) TM TU (LamX.lamS_by (sc := defScope (top 140)) (by decide +kernel)) (by rfl)) (da_cons (dp_var (pv 2)) da_nil))) da_nil))))
      (dss_cons (ds_expr (dp_app (pe_bm PySem.F.plainAttrs_list PySem.F.slot_list_append PySem.F.type_list_append mt_append (dp_var (pv 4)) (da_cons (dp_tup (da_cons (dp_lamV TB (by rfl) TM TU (LamX.lamS_by (sc := defScope (top 140)) (by decide +kernel)) (by rfl)) (da_cons (dp_var (pv 3)) da_nil))) da_nil))))
      (dss_cons (ds_expr (dp_app (pe_bm PySem.F.plainAttrs_list PySem.F.slot_list_append PySem.F.type_list_append mt_append (dp_var (pv 4)) (da_cons (dp_tup (da_cons (dp_lamV TB (by rfl) TM TU (LamX.lamS_by (sc := defScope (top 140)) (by decide +kernel)) (by rfl)) (da_cons (dp_var (pv 3)) da_nil))) da_nil))))
      (dss_cons (ds_expr (dp_app (pe_bm PySem.F.plainAttrs_list PySem.F.slot_list_append PySem.F.type_list_append mt_append (dp_var (pv 4)) (da_cons (dp_tup (da_cons (dp_lamV TB (by rfl) TM TU (LamX.lamS_by (sc := defScope (top 140)) (by decide +kernel)) (by rfl)) (da_cons (dp_var (pv 3)) da_nil))) da_nil))))
      (dss_cons (ds_expr (dp_app (pe_bm PySem.F.plainAttrs_list PySem.F.slot_list_append PySem.F.type_list_append mt_append (dp_var (pv 4)) (da_cons (dp_tup (da_cons (dp_lamV TB (by rfl) TM TU (LamX.lamS_by (sc := defScope (top 140)) (by decide +kernel)) (by rfl)) (da_cons (dp_var (pv 2)) da_nil))) da_nil))))
      (dss_cons (ds_expr (dp_app (pe_bm PySem.F.plainAttrs_list PySem.F.slot_list_append PySem.F.type_list_append mt_append (dp_var (pv 4)) (da_cons (dp_tup (da_cons (dp_lamV TB (by rfl) TM TU (LamX.lamS_by (sc := defScope (top 140)) (by decide +kernel)) (by rfl)) (da_cons (dp_lst da_nil) da_nil))) da_nil))))
      (dss_cons (ds_expr (dp_app (pe_bm PySem.F.plainAttrs_list PySem.F.slot_list_append PySem.F.type_list_append mt_append (dp_var (pv 4)) (da_cons (dp_tup (da_cons (dp_lamV TB (by rfl) TM TU (LamX.lamS_by (sc := defScope (top 140)) (by decide +kernel)) (by rfl)) (da_cons (dp_var (pv 1)) da_nil))) da_nil))))
      (dss_one (ds_ret (dp_bfn (cr_all rfl) (drc_all rfl) (by rfl) T.n_all PyProof.Rows.boot_all (da_cons (dp_lc (LcI.pe_lcI (own := [("_law_call", 5), ("_law_value_here", 6)]) rfl sc__law_are_refused.nd (di_list rfl (dp_frz (dp_var (pv 4)))) (blkOk_by (N := N__law_are_refused) (sc := defScope (top 140)) (by decide +kernel)) (fun s H C cl fp => by exact (dg_tup rfl rfl (dgs_cons (dg_of (pg_name (i := 5) sc__law_are_refused.nd rfl (Or.inl rfl)) (by decide)) (dgs_cons (dg_of (pg_name (i := 6) sc__law_are_refused.nd rfl (Or.inl rfl)) (by decide)) dgs_nil)))) (fun s H C cl fp => dts_nil) (item_told2 (k := 17) (L := Lm__law_are_refused) (fbs := fb__law_are_refused K A cs) T.d_law_refused sc_law_refused (by rfl) (by exact Or.inl rfl) (fun g q => told_ok T (by exact cGrid_eqN) (hr.mono (by decide)) (tk := tk) g) (hr.mono (by decide)) (fun i hi => match i, hi with | 0, _ => ⟨rfl, LamX.lamS_by (sc := defScope (top 140)) (by decide +kernel), fun _ _ _ _ _ => rfl, fun A2 outer2 s2 H2 E2 f2 c2 hr2 => by exact (dp_cal (by exact cpart_at) (by exact hr2) (by decide) (by exact (takes_of rfl rfl rfl rfl)) (by rfl) (da_cons (dp_var (pv 2)) (da_cons dp_int (da_cons dp_int da_nil))))⟩ | 1, _ => ⟨rfl, LamX.lamS_by (sc := defScope (top 140)) (by decide +kernel), fun _ _ _ _ _ => rfl, fun A2 outer2 s2 H2 E2 f2 c2 hr2 => by exact (dp_cal (by exact cpart_at) (by exact hr2) (by decide) (by exact (takes_of rfl rfl rfl rfl)) (by rfl) (da_cons (dp_var (pv 1)) (da_cons (dp_var (pv 3)) (da_cons dp_int da_nil))))⟩ | 2, _ => ⟨rfl, LamX.lamS_by (sc := defScope (top 140)) (by decide +kernel), fun _ _ _ _ _ => rfl, fun A2 outer2 s2 H2 E2 f2 c2 hr2 => by exact (dp_cal (by exact cpart_at) (by exact hr2) (by decide) (by exact (takes_of rfl rfl rfl rfl)) (by rfl) (da_cons (dp_var (pv 1)) (da_cons dp_int (da_cons (dp_var (pv 3)) da_nil))))⟩ | 3, _ => ⟨rfl, LamX.lamS_by (sc := defScope (top 140)) (by decide +kernel), fun _ _ _ _ _ => rfl, fun A2 outer2 s2 H2 E2 f2 c2 hr2 => by exact (dp_cal (by exact cpart_at) (by exact hr2) (by decide) (by exact (takes_of rfl rfl rfl rfl)) (by rfl) (da_cons (dp_var (pv 1)) (da_cons (dp_var (pv 3)) (da_cons dp_non da_nil))))⟩ | 4, _ => ⟨rfl, LamX.lamS_by (sc := defScope (top 140)) (by decide +kernel), fun _ _ _ _ _ => rfl, fun A2 outer2 s2 H2 E2 f2 c2 hr2 => by exact (dp_cal (by exact cstretched) (by exact hr2) (by decide) (by exact (takes_of rfl rfl rfl rfl)) (by rfl) (da_cons (dp_lst (da_cons (dp_var (pv 1)) (da_cons (dp_var (pv 2)) (da_cons (dp_var (pv 3)) da_nil)))) da_nil))⟩ | 5, _ => ⟨rfl, LamX.lamS_by (sc := defScope (top 140)) (by decide +kernel), fun _ _ _ _ _ => rfl, fun A2 outer2 s2 H2 E2 f2 c2 hr2 => by exact (dp_cal (by exact cstretched) (by exact hr2) (by decide) (by exact (takes_of rfl rfl rfl rfl)) (by rfl) (da_cons (dp_lst da_nil) da_nil))⟩ | 6, _ => ⟨rfl, LamX.lamS_by (sc := defScope (top 140)) (by decide +kernel), fun _ _ _ _ _ => rfl, fun A2 outer2 s2 H2 E2 f2 c2 hr2 => by exact (dp_cal (by exact cstretched) (by exact hr2) (by decide) (by exact (takes_of rfl rfl rfl rfl)) (by rfl) (da_cons (dp_var (pv 1)) da_nil))⟩ | k + 7, h => absurd h (by omega)) (fun s H C cl fp => by rfl) (fun s H C cl fp => by exact (dp_var (pv 5))) (fun s H C cl fp => by exact (dp_var (pv 6))) (by rfl) (by rfl)))) da_nil)))))))))))))
theorem b_need_integer (T : Txt P K mg A) (cis_integer : CalD P w K mg base (MM K Tb pn cs) 2 "is_integer" ["value"] (s_is_integer A)) (f : Addr) (cdv : Value) (A0 : Around) (outer : List Env) (s0 : Shared) (H : Hp) (E : XK) (hr : Room 2 (A0.deeper (envOfC "need_integer" (defScope (top 10)) s0.heap.objs.size f cdv))) :
    PSs (XC P w K mg base N_need_integer "need_integer" (top 10) f cdv A0 outer s0 H E) (defBody (top 10)) (liftS (MM K Tb pn cs) (fun cls d _ H' => E cls d H') (t_need_integer K A cs)) := by
  have tk : Takes (XC P w K mg base N_need_integer "need_integer" (top 10) f cdv A0 outer s0 H E) (fun cls d _ H => E cls d H) := takes_of rfl rfl rfl rfl
  have hp : PassesOwn (model P w) (XC P w K mg base N_need_integer "need_integer" (top 10) f cdv A0 outer s0 H E).A (XC P w K mg base N_need_integer "need_integer" (top 10) f cdv A0 outer s0 H E).env (XC P w K mg base N_need_integer "need_integer" (top 10) f cdv A0 outer s0 H E).xe := passes_of rfl
  exact (dss_one (ds_if (dt_not (dt_val (dp_cal (by exact cis_integer) (by exact hr) (by decide) (by exact tk) (by rfl) (da_cons (dp_var (pv 0)) da_nil)))) (dss_one (ds_raise (ps_raiseErr rfl T.e_BadValue hr tk (da_cons (dp_var (pv 0)) da_nil) (by rfl) (by decide)))) dss_nil))
theorem b_common_whole (T : Txt P K mg A)  (f : Addr) (cdv : Value) (A0 : Around) (outer : List Env) (s0 : Shared) (H : Hp) (E : XK) (hr : Room 1 (A0.deeper (envOfC "common_whole" (defScope (top 14)) s0.heap.objs.size f cdv))) :
    PSs (XC P w K mg base N_common_whole "common_whole" (top 14) f cdv A0 outer s0 H E) (defBody (top 14)) (liftS (MM K Tb pn cs) (fun cls d _ H' => E cls d H') (t_common_whole K A cs)) := by
  have tk : Takes (XC P w K mg base N_common_whole "common_whole" (top 14) f cdv A0 outer s0 H E) (fun cls d _ H => E cls d H) := takes_of rfl rfl rfl rfl
  have hp : PassesOwn (model P w) (XC P w K mg base N_common_whole "common_whole" (top 14) f cdv A0 outer s0 H E).A (XC P w K mg base N_common_whole "common_whole" (top 14) f cdv A0 outer s0 H E).env (XC P w K mg base N_common_whole "common_whole" (top 14) f cdv A0 outer s0 H E).xe := passes_of rfl
  exact (dss_cons (ds_par (ps_par (i := 0) (j := 1) rfl sc_common_whole.nd rfl rfl (by decide) rfl rfl (da_cons (dp_bfn (call_abs) (drc_abs) (by rfl) T.n_abs boot_abs (da_cons (dp_var (pv 0)) da_nil)) (da_cons (dp_bfn (call_abs) (drc_abs) (by rfl) T.n_abs boot_abs (da_cons (dp_var (pv 1)) da_nil)) da_nil)) rfl rfl))
      (dss_cons (ds_while hp (dt_cmp op_gtX dr_ord (dp_var (pv 1)) dp_int (nomark _)) (dss_one (ds_par (ps_par (i := 0) (j := 1) rfl sc_common_whole.nd rfl rfl (by decide) rfl rfl (da_cons (dp_var (pv 1)) (da_cons (dp_mod (dp_var (pv 0)) (dp_var (pv 1))) da_nil)) rfl rfl))))
      (dss_one (ds_ret (dp_var (pv 0))))))
theorem b_Ratio_init (T : Txt P K mg A) (ccommon_whole : CalD P w K mg base (MM K Tb pn cs) 2 "common_whole" ["one", "other"] (s_common_whole A)) (cneed_integer : CalD P w K mg base (MM K Tb pn cs) 3 "need_integer" ["value"] (s_need_integer A)) (f : Addr) (cdv : Value) (A0 : Around) (outer : List Env) (s0 : Shared) (H : Hp) (E : XK) (hr : Room 3 (A0.deeper (envOfC "Ratio.__init__" (defScope (inClass (top 17) 0)) s0.heap.objs.size f cdv))) :
    PSs (XC P w K mg base N_Ratio_init "Ratio.__init__" (inClass (top 17) 0) f cdv A0 outer s0 H E) (defBody (inClass (top 17) 0)) (liftS (MM K Tb pn cs) (fun cls d _ H' => E cls d H') (t_Ratio_init K A cs)) := by
  have tk : Takes (XC P w K mg base N_Ratio_init "Ratio.__init__" (inClass (top 17) 0) f cdv A0 outer s0 H E) (fun cls d _ H => E cls d H) := takes_of rfl rfl rfl rfl
  have hp : PassesOwn (model P w) (XC P w K mg base N_Ratio_init "Ratio.__init__" (inClass (top 17) 0) f cdv A0 outer s0 H E).A (XC P w K mg base N_Ratio_init "Ratio.__init__" (inClass (top 17) 0) f cdv A0 outer s0 H E).env (XC P w K mg base N_Ratio_init "Ratio.__init__" (inClass (top 17) 0) f cdv A0 outer s0 H E).xe := passes_of rfl
  exact (dss_cons (ds_expr (dp_cal (by exact cneed_integer) (by exact hr) (by decide) (by exact tk) (by rfl) (da_cons (dp_var (pv 1)) da_nil)))
      (dss_cons (ds_expr (dp_cal (by exact cneed_integer) (by exact hr) (by decide) (by exact tk) (by rfl) (da_cons (dp_var (pv 2)) da_nil)))
      (dss_cons (ds_if (dt_cmp (op_eqX rfl (hu64 hr)) dr_eq (dp_var (pv 2)) dp_int (nomark _)) (dss_one (ds_raise0 rfl T.z_NoDivisor tk (by rfl))) dss_nil)
      (dss_cons (ds_set (ps_set (i := 3) sc_Ratio_init.nd rfl (Or.inl rfl) (dp_cal (by exact ccommon_whole) (by exact hr) (by decide) (by exact tk) (by rfl) (da_cons (dp_var (pv 1)) (da_cons (dp_var (pv 2)) da_nil)))))
      (dss_cons (ds_if (dt_cmp op_ltX dr_ord (dp_var (pv 2)) dp_int (nomark _)) (dss_one (ds_set (ps_set (i := 3) sc_Ratio_init.nd rfl (Or.inl rfl) (dp_neg (dp_var (pv 3)))))) dss_nil)
      (dss_one (ds_asg (vs := []) (ps_asg (dp_tup (da_cons (dp_fdivW (dp_var (pv 1)) (dp_var (pv 3))) (da_cons (dp_fdivW (dp_var (pv 2)) (dp_var (pv 3))) da_nil))) (dg_tup rfl rfl (dgs_cons (dg_fld (W := W0) T.fl_top (dp_var (pv 0))) (dgs_cons (dg_fld (W := W0) T.fl_bottom (dp_var (pv 0))) dgs_nil)))))))))))
theorem b__law_value (T : Txt P K mg A) (cFault_new0 : NewD P w K mg base (MM K Tb pn cs) 2 "Fault" 1 [] g_Fault_new0 (s_Fault A)) (cRatio_new1 : NewD P w K mg base (MM K Tb pn cs) 4 "Ratio" 2 [] g_Ratio_new1 (s_Ratio A)) (c_law_draw : CalD P w K mg base (MM K Tb pn cs) 2 "_law_draw" ["_law_pen", "_law_span"] (s__law_draw A)) (c_law_pick : CalD P w K mg base (MM K Tb pn cs) 3 "_law_pick" ["_law_pen", "_law_some"] (s__law_pick A)) (f : Addr) (cdv : Value) (A0 : Around) (outer : List Env) (s0 : Shared) (H : Hp) (E : XK) (hr : Room 5 (A0.deeper (envOfC "_law_value" (defScope (top 135)) s0.heap.objs.size f cdv))) :
    PSs (XC P w K mg base N__law_value "_law_value" (top 135) f cdv A0 outer s0 H E) (defBody (top 135)) (liftS (MM K Tb pn cs) (fun cls d _ H' => E cls d H') (t__law_value K A cs)) := by
  have tk : Takes (XC P w K mg base N__law_value "_law_value" (top 135) f cdv A0 outer s0 H E) (fun cls d _ H => E cls d H) := takes_of rfl rfl rfl rfl
  have hp : PassesOwn (model P w) (XC P w K mg base N__law_value "_law_value" (top 135) f cdv A0 outer s0 H E).A (XC P w K mg base N__law_value "_law_value" (top 135) f cdv A0 outer s0 H E).env (XC P w K mg base N__law_value "_law_value" (top 135) f cdv A0 outer s0 H E).xe := passes_of rfl
  exact (dss_cons (ds_set (ps_set (i := 1) sc__law_value.nd rfl (Or.inl rfl) (dp_newP (by exact cRatio_new1) (by exact hr) (by decide) (by exact tk) (by rfl) (da_cons (dp_sub (dp_cal (by exact c_law_draw) (by exact hr) (by decide) (by exact tk) (by rfl) (da_cons (dp_var (pv 0)) (da_cons dp_int da_nil))) dp_int) (da_cons (dp_add rfl dp_int (dp_cal (by exact c_law_draw) (by exact hr) (by decide) (by exact tk) (by rfl) (da_cons (dp_var (pv 0)) (da_cons dp_int da_nil)))) da_nil)))))
      (dss_one (ds_ret (dp_cal (by exact c_law_pick) (by exact hr) (by decide) (by exact tk) (by rfl) (da_cons (dp_var (pv 0)) (da_cons (dp_lst (da_cons (dp_var (pv 1)) (da_cons (dp_var (pv 1)) (da_cons (dp_add rfl (dp_str [120]) (dp_bty call_str_int drc_str (by rfl) T.n_str PyProof.Rows.boot_str (da_cons (dp_cal (by exact c_law_draw) (by exact hr) (by decide) (by exact tk) (by rfl) (da_cons (dp_var (pv 0)) (da_cons dp_int da_nil))) da_nil))) (da_cons (dp_cmp (op_eqX rfl (hu64 hr)) dr_eq (dp_cal (by exact c_law_draw) (by exact hr) (by decide) (by exact tk) (by rfl) (da_cons (dp_var (pv 0)) (da_cons dp_int da_nil))) dp_int (nomark _)) (da_cons dp_non (da_cons (dp_newP (by exact cFault_new0) (by exact hr) (by decide) (by exact tk) (by rfl) (da_cons (dp_str [78, 65]) da_nil)) (da_cons (dp_newP (by exact cFault_new0) (by exact hr) (by decide) (by exact tk) (by rfl) (da_cons (dp_str [68, 73, 86]) da_nil)) da_nil)))))))) da_nil))))))
theorem b__law_rows (T : Txt P K mg A) (cRatio_new2 : NewD P w K mg base (MM K Tb pn cs) 4 "Ratio" 1 [] g_Ratio_new2 (s_Ratio A)) (c_law_draw : CalD P w K mg base (MM K Tb pn cs) 2 "_law_draw" ["_law_pen", "_law_span"] (s__law_draw A)) (c_law_pick : CalD P w K mg base (MM K Tb pn cs) 3 "_law_pick" ["_law_pen", "_law_some"] (s__law_pick A)) (c_law_value : CalD P w K mg base (MM K Tb pn cs) 6 "_law_value" ["_law_pen"] (s__law_value A)) (f : Addr) (cdv : Value) (A0 : Around) (outer : List Env) (s0 : Shared) (H : Hp) (E : XK) (hr : Room 6 (A0.deeper (envOfC "_law_rows" (defScope (top 136)) s0.heap.objs.size f cdv))) :
    PSs (XC P w K mg base N__law_rows "_law_rows" (top 136) f cdv A0 outer s0 H E) (defBody (top 136)) (liftS (MM K Tb pn cs) (fun cls d _ H' => E cls d H') (t__law_rows K A cs)) := by
  have tk : Takes (XC P w K mg base N__law_rows "_law_rows" (top 136) f cdv A0 outer s0 H E) (fun cls d _ H => E cls d H) := takes_of rfl rfl rfl rfl
  have hp : PassesOwn (model P w) (XC P w K mg base N__law_rows "_law_rows" (top 136) f cdv A0 outer s0 H E).A (XC P w K mg base N__law_rows "_law_rows" (top 136) f cdv A0 outer s0 H E).env (XC P w K mg base N__law_rows "_law_rows" (top 136) f cdv A0 outer s0 H E).xe := passes_of rfl
  exact (dss_cons (ds_asg (vs := [1, 2]) (ps_asg (dp_tup (da_cons (dp_cal (by exact c_law_pick) (by exact hr) (by decide) (by exact tk) (by rfl) (da_cons (dp_var (pv 0)) (da_cons (dp_lst (da_cons dp_int (da_cons dp_int (da_cons (dp_add rfl dp_int (dp_cal (by exact c_law_draw) (by exact hr) (by decide) (by exact tk) (by rfl) (da_cons (dp_var (pv 0)) (da_cons dp_int da_nil)))) da_nil)))) da_nil))) (da_cons (dp_cal (by exact c_law_pick) (by exact hr) (by decide) (by exact tk) (by rfl) (da_cons (dp_var (pv 0)) (da_cons (dp_lst (da_cons dp_int (da_cons dp_int (da_cons (dp_add rfl dp_int (dp_cal (by exact c_law_draw) (by exact hr) (by decide) (by exact tk) (by rfl) (da_cons (dp_var (pv 0)) (da_cons dp_int da_nil)))) da_nil)))) da_nil))) da_nil))) (dg_tup rfl rfl (dgs_cons (dg_of (pg_name (i := 1) sc__law_rows.nd rfl (Or.inl rfl)) List.mem_cons_self) (dgs_cons (dg_of (pg_name (i := 2) sc__law_rows.nd rfl (Or.inr rfl)) (List.mem_cons_of_mem _ List.mem_cons_self)) dgs_nil)))))
      (dss_cons (ds_if (dt_cmp (op_eqX rfl (hu64 hr)) dr_eq (dp_cal (by exact c_law_draw) (by exact hr) (by decide) (by exact tk) (by rfl) (da_cons (dp_var (pv 0)) (da_cons dp_int da_nil))) dp_int (nomark _)) (dss_cons (ds_asg (vs := [1, 2]) (ps_asg (dp_cal (by exact c_law_pick) (by exact hr) (by decide) (by exact tk) (by rfl) (da_cons (dp_var (pv 0)) (da_cons (dp_lst (da_cons (dp_tup (da_cons dp_int (da_cons dp_int da_nil))) (da_cons (dp_tup (da_cons dp_int (da_cons dp_int da_nil))) (da_cons (dp_tup (da_cons dp_int (da_cons dp_int da_nil))) (da_cons (dp_tup (da_cons dp_int (da_cons dp_int da_nil))) da_nil))))) da_nil))) (dg_tup rfl rfl (dgs_cons (dg_of (pg_name (i := 1) sc__law_rows.nd rfl (Or.inl rfl)) (by decide)) (dgs_cons (dg_of (pg_name (i := 2) sc__law_rows.nd rfl (Or.inr rfl)) (by decide)) dgs_nil)))))
      (dss_one (ds_ret (dp_lc (pe_lc (own := [("_law_row", 4)]) rfl sc__law_rows.nd (di_range1 (pi_range1 (by rfl) T.n_range (da_cons (dp_var (pv 1)) da_nil))) (blkOk_by (N := N__law_rows) (sc := defScope (top 136)) (by decide +kernel)) (fun s H C cl fp => dg_of (pg_name (i := 4) sc__law_rows.nd rfl (Or.inr rfl)) List.mem_cons_self) (fun s H C cl fp => by exact dts_nil) (fun s H C cl fp => by exact (dp_lc (pe_lc (own := [("_law_column", 3)]) rfl sc__law_rows.nd (di_range1 (pi_range1 (by rfl) T.n_range (da_cons (dp_var (pv 2)) da_nil))) (blkOk_by (N := N__law_rows) (sc := relS _ (defScope (top 136))) (by decide +kernel)) (fun s H C cl fp => dg_of (pg_name (i := 3) sc__law_rows.nd rfl (Or.inl rfl)) List.mem_cons_self) (fun s H C cl fp => by exact dts_nil) (fun s H C cl fp => by exact (dp_newP (by exact cRatio_new2) (by exact hr) (by decide) (by exact LamX.takes0) (by rfl) (da_cons (dp_add rfl (dp_mul (dp_var (pv 4)) (dp_var (pv 2))) (dp_var (pv 3))) da_nil))))))))))) dss_nil)
      (dss_one (ds_ret (dp_lc (pe_lc (own := [("_law_row", 4)]) rfl sc__law_rows.nd (di_range1 (pi_range1 (by rfl) T.n_range (da_cons (dp_var (pv 1)) da_nil))) (blkOk_by (N := N__law_rows) (sc := defScope (top 136)) (by decide +kernel)) (fun s H C cl fp => dg_of (pg_name (i := 4) sc__law_rows.nd rfl (Or.inl rfl)) List.mem_cons_self) (fun s H C cl fp => by exact dts_nil) (fun s H C cl fp => by exact (dp_lc (pe_lc (own := [("_law_column", 3)]) rfl sc__law_rows.nd (di_range1 (pi_range1 (by rfl) T.n_range (da_cons (dp_var (pv 2)) da_nil))) (blkOk_by (N := N__law_rows) (sc := relS _ (defScope (top 136))) (by decide +kernel)) (fun s H C cl fp => dg_of (pg_name (i := 3) sc__law_rows.nd rfl (Or.inl rfl)) List.mem_cons_self) (fun s H C cl fp => by exact dts_nil) (fun s H C cl fp => by exact (dp_cal (by exact c_law_value) (by exact hr) (by decide) (by exact LamX.takes0) (by rfl) (da_cons (dp_var (pv 0)) da_nil))))))))))))
theorem b__law_same (T : Txt P K mg A) (cFault_eq : EqD P w K mg base (MM K Tb pn cs) 2 A.Fault (s_Fault_eq A)) (cRatio_eq : EqD P w K mg base (MM K Tb pn cs) 2 A.Ratio (s_Ratio_eq A)) (f : Addr) (cdv : Value) (A0 : Around) (outer : List Env) (s0 : Shared) (H : Hp) (E : XK) (hr : Room 8 (A0.deeper (envOfC "_law_same" (defScope (top 138)) s0.heap.objs.size f cdv))) :
    PSs (XC P w K mg base N__law_same "_law_same" (top 138) f cdv A0 outer s0 H E) (defBody (top 138)) (liftS (MM K Tb pn cs) (fun cls d _ H' => E cls d H') (t__law_same K A cs)) := by
  have tk : Takes (XC P w K mg base N__law_same "_law_same" (top 138) f cdv A0 outer s0 H E) (fun cls d _ H => E cls d H) := takes_of rfl rfl rfl rfl
  have hp : PassesOwn (model P w) (XC P w K mg base N__law_same "_law_same" (top 138) f cdv A0 outer s0 H E).A (XC P w K mg base N__law_same "_law_same" (top 138) f cdv A0 outer s0 H E).env (XC P w K mg base N__law_same "_law_same" (top 138) f cdv A0 outer s0 H E).xe := passes_of rfl
  exact (dss_one (ds_ret (dp_and (dp_cmp (op_eqS (k := 2) rfl (eqDs_cons (by exact cRatio_eq) (by decide) (eqDs_cons (by exact cFault_eq) (by decide) eqDs_nil)) (by exact hr) (by decide)) dr_eqS (dp_bfn (call_isi) (drc_isi rfl) (by rfl) T.n_isinstance PyProof.Rows.boot_isinstance (da_cons (dp_var (pv 0)) (da_cons (dp_ty (by rfl) (by exact T.n_bool) PyProof.Rows.boot_bool) da_nil))) (dp_bfn (call_isi) (drc_isi rfl) (by rfl) T.n_isinstance PyProof.Rows.boot_isinstance (da_cons (dp_var (pv 1)) (da_cons (dp_ty (by rfl) (by exact T.n_bool) PyProof.Rows.boot_bool) da_nil))) (nomark _)) (dp_one (dp_cmp (op_eqS (k := 2) rfl (eqDs_cons (by exact cRatio_eq) (by decide) (eqDs_cons (by exact cFault_eq) (by decide) eqDs_nil)) (by exact hr) (by decide)) dr_eqS (dp_var (pv 0)) (dp_var (pv 1)) (nomark _))))))
theorem b__law_given (T : Txt P K mg A) (cFault_new0 : NewD P w K mg base (MM K Tb pn cs) 2 "Fault" 1 [] g_Fault_new0 (s_Fault A)) (f : Addr) (cdv : Value) (A0 : Around) (outer : List Env) (s0 : Shared) (H : Hp) (E : XK) (hr : Room 3 (A0.deeper (envOfC "_law_given" (defScope (top 137)) s0.heap.objs.size f cdv))) :
    PSs (XC P w K mg base N__law_given "_law_given" (top 137) f cdv A0 outer s0 H E) (defBody (top 137)) (liftS (MM K Tb pn cs) (fun cls d _ H' => E cls d H') (t__law_given K A cs)) := by
  have tk : Takes (XC P w K mg base N__law_given "_law_given" (top 137) f cdv A0 outer s0 H E) (fun cls d _ H => E cls d H) := takes_of rfl rfl rfl rfl
  have hp : PassesOwn (model P w) (XC P w K mg base N__law_given "_law_given" (top 137) f cdv A0 outer s0 H E).A (XC P w K mg base N__law_given "_law_given" (top 137) f cdv A0 outer s0 H E).env (XC P w K mg base N__law_given "_law_given" (top 137) f cdv A0 outer s0 H E).xe := passes_of rfl
  exact (dss_cons (ds_set (ps_set (i := 3) sc__law_given.nd rfl (Or.inl rfl) (dp_if (dt_cmp (op_eqX rfl (hu64 hr)) dr_eq (dp_bfn (call_len) (drc_len rfl) (by rfl) T.n_len PySem.boot_len (da_cons (dp_var (pv 0)) da_nil)) dp_int (nomark _)) dp_int (dp_var (pv 1)))))
      (dss_cons (ds_set (ps_set (i := 4) sc__law_given.nd rfl (Or.inl rfl) (dp_if (dt_cmp (op_eqX rfl (hu64 hr)) dr_eq (dp_bfn (call_len) (drc_len rfl) (by rfl) T.n_len PySem.boot_len (da_cons (dp_ix rfl (dp_var (pv 0)) dp_int) da_nil)) dp_int (nomark _)) dp_int (dp_var (pv 2)))))
      (dss_one (ds_ret (dp_if (dt_w (dw_and (dt_cmp op_leX dr_ord (dp_var (pv 3)) (dp_bfn (call_len) (drc_len rfl) (by rfl) T.n_len PySem.boot_len (da_cons (dp_var (pv 0)) da_nil)) (nomark _)) (dw_and1 (dt_cmp op_leX dr_ord (dp_var (pv 4)) (dp_bfn (call_len) (drc_len rfl) (by rfl) T.n_len PySem.boot_len (da_cons (dp_ix rfl (dp_var (pv 0)) dp_int) da_nil)) (nomark _))))) (dp_ix rfl (dp_ix rfl (dp_var (pv 0)) (dp_sub (dp_var (pv 3)) dp_int)) (dp_sub (dp_var (pv 4)) dp_int)) (dp_newP (by exact cFault_new0) (by exact hr) (by decide) (by exact tk) (by rfl) (da_cons (dp_str [78, 65]) da_nil)))))))
theorem b_law (T : Txt P K mg A) (cGrid_eq : EqD P w K mg base (MM K Tb pn cs) 9 A.Grid (s_Grid_eq A)) (cGrid_new3 : NewD P w K mg base (MM K Tb pn cs) 6 "Grid" 1 [] g_Grid_new3 (s_Grid A)) (c_law_are_refused : CalD P w K mg base (MM K Tb pn cs) 20 "_law_are_refused" ["_law_pen", "_law_grid"] (s__law_are_refused A)) (c_law_draw : CalD P w K mg base (MM K Tb pn cs) 2 "_law_draw" ["_law_pen", "_law_span"] (s__law_draw A)) (c_law_given : CalD P w K mg base (MM K Tb pn cs) 4 "_law_given" ["_law_rows_here", "_law_row", "_law_column"] (s__law_given A)) (c_law_pick : CalD P w K mg base (MM K Tb pn cs) 3 "_law_pick" ["_law_pen", "_law_some"] (s__law_pick A)) (c_law_rows : CalD P w K mg base (MM K Tb pn cs) 7 "_law_rows" ["_law_pen"] (s__law_rows A)) (c_law_same : CalD P w K mg base (MM K Tb pn cs) 9 "_law_same" ["_law_one", "_law_other"] (s__law_same A)) (cpart_at : CalD P w K mg base (MM K Tb pn cs) 5 "part_at" ["grid", "row", "column"] (s_part_at A)) (cstretched : CalD P w K mg base (MM K Tb pn cs) 3 "stretched" ["grids"] (s_stretched A)) (f : Addr) (cdv : Value) (A0 : Around) (outer : List Env) (s0 : Shared) (H : Hp) (E : XK) (hr : Room 20 (A0.deeper (envOfC "law" (defScope (top 141)) s0.heap.objs.size f cdv))) :
    PSs (XC P w K mg base N_law "law" (top 141) f cdv A0 outer s0 H E) ((defBody (top 141)).drop 1) (liftS (MM K Tb pn cs) (fun cls d _ H' => E cls d H') (t_law K A cs)) := by
  have tk : Takes (XC P w K mg base N_law "law" (top 141) f cdv A0 outer s0 H E) (fun cls d _ H => E cls d H) := takes_of rfl rfl rfl rfl
  have hp : PassesOwn (model P w) (XC P w K mg base N_law "law" (top 141) f cdv A0 outer s0 H E).A (XC P w K mg base N_law "law" (top 141) f cdv A0 outer s0 H E).env (XC P w K mg base N_law "law" (top 141) f cdv A0 outer s0 H E).xe := passes_of rfl
  exact (dss_cons (ds_setLc (ps_setLc (own := [("_law_k", 3)]) (i := 2) rfl sc_law.nd rfl rfl (by with_unfolding_all rfl) (di_range1 (pi_range1 (by rfl) T.n_range (da_cons (dp_add rfl dp_int (dp_cal (by exact c_law_draw) (by exact hr) (by decide) (by exact tk) (by rfl) (da_cons (dp_var (pv 1)) (da_cons dp_int da_nil)))) da_nil))) (blkOk_by (N := N_law) (sc := defScope (top 141)) (by decide +kernel)) (fun s H C cl fp => dg_of (pg_name (i := 3) sc_law.nd rfl (Or.inl rfl)) List.mem_cons_self) (fun s H C cl fp => by exact dts_nil) (fun s H C cl fp => by exact (dp_cal (by exact c_law_rows) (by exact hr) (by decide) (by exact LamX.takes0) (by rfl) (da_cons (dp_var (pv 1)) da_nil)))))
      (dss_cons (ds_setLc (ps_setLc (own := [("_law_rows_here", 6)]) (i := 4) rfl sc_law.nd rfl rfl (by with_unfolding_all rfl) (di_list rfl (dp_var (pv 2))) (blkOk_by (N := N_law) (sc := defScope (top 141)) (by decide +kernel)) (fun s H C cl fp => dg_of (pg_name (i := 6) sc_law.nd rfl (Or.inl rfl)) List.mem_cons_self) (fun s H C cl fp => by exact dts_nil) (fun s H C cl fp => by exact (dp_newP (by exact cGrid_new3) (by exact hr) (by decide) (by exact LamX.takes0) (by rfl) (da_cons (dp_lc (pe_lc (own := [("_law_row", 5)]) rfl sc_law.nd (di_list rfl (dp_var (pv 6))) (blkOk_by (N := N_law) (sc := relS _ (defScope (top 141))) (by decide +kernel)) (fun s H C cl fp => dg_of (pg_name (i := 5) sc_law.nd rfl (Or.inl rfl)) List.mem_cons_self) (fun s H C cl fp => by exact dts_nil) (fun s H C cl fp => by exact (dp_bty call_tuple_of (drc_tuple rfl) (by rfl) T.n_tuple PyProof.Rows.boot_tuple (da_cons (dp_var (pv 5)) da_nil))))) da_nil)))))
      (dss_cons (ds_par (ps_par (i := 7) (j := 8) rfl sc_law.nd rfl rfl (by decide) rfl rfl (da_cons (dp_bfn (cr_max rfl) (drc_maxL rfl) (by rfl) T.n_max PyProof.Rows.boot_max (da_cons (dp_lc (pe_lc (own := [("_law_rows_here", 6)]) rfl sc_law.nd (di_list rfl (dp_var (pv 2))) (blkOk_by (N := N_law) (sc := defScope (top 141)) (by decide +kernel)) (fun s H C cl fp => dg_of (pg_name (i := 6) sc_law.nd rfl (Or.inl rfl)) List.mem_cons_self) (fun s H C cl fp => by exact dts_nil) (fun s H C cl fp => by exact (dp_bfn (call_len) (drc_len rfl) (by rfl) T.n_len PySem.boot_len (da_cons (dp_var (pv 6)) da_nil))))) da_nil)) (da_cons (dp_bfn (cr_max rfl) (drc_maxL rfl) (by rfl) T.n_max PyProof.Rows.boot_max (da_cons (dp_lc (pe_lc (own := [("_law_rows_here", 6)]) rfl sc_law.nd (di_list rfl (dp_var (pv 2))) (blkOk_by (N := N_law) (sc := defScope (top 141)) (by decide +kernel)) (fun s H C cl fp => dg_of (pg_name (i := 6) sc_law.nd rfl (Or.inl rfl)) List.mem_cons_self) (fun s H C cl fp => by exact dts_nil) (fun s H C cl fp => by exact (dp_bfn (call_len) (drc_len rfl) (by rfl) T.n_len PySem.boot_len (da_cons (dp_ix rfl (dp_var (pv 6)) dp_int) da_nil))))) da_nil)) da_nil)) rfl rfl))
      (dss_cons (ds_set (ps_set (i := 9) sc_law.nd rfl (Or.inl rfl) (dp_bty (cl_list rfl) (drc_list rfl) (by rfl) T.n_list PyProof.Rows.boot_list (da_cons (dp_var (pv 4)) da_nil))))
      (dss_cons (ds_set (ps_set (i := 10) sc_law.nd rfl (Or.inl rfl) (dp_cal (by exact cstretched) (by exact hr) (by decide) (by exact tk) (by rfl) (da_cons (dp_var (pv 4)) da_nil))))
      (dss_cons (ds_if (dt_w (dw_or (dt_cmp (op_neS (k := 9) rfl (eqDs_cons (by exact cGrid_eq) (by decide) eqDs_nil) (by exact hr) (by decide)) dr_neS (dp_var (pv 10)) (dp_tup (da_cons (dp_var (pv 7)) (da_cons (dp_var (pv 8)) da_nil))) (nomark _)) (dw_or (dt_not (dt_val (dp_bfn (call_isi) (drc_isi rfl) (by rfl) T.n_isinstance PyProof.Rows.boot_isinstance (da_cons (dp_var (pv 10)) (da_cons (dp_ty (by rfl) (by exact T.n_tuple) PyProof.Rows.boot_tuple) da_nil))))) (dw_or (dt_cmp (op_neS (k := 9) rfl (eqDs_cons (by exact cGrid_eq) (by decide) eqDs_nil) (by exact hr) (by decide)) dr_neS (dp_cal (by exact cstretched) (by exact hr) (by decide) (by exact tk) (by rfl) (da_cons (dp_bty call_tuple_of (drc_tuple rfl) (by rfl) T.n_tuple PyProof.Rows.boot_tuple (da_cons (dp_revL rfl (dp_var (pv 4))) da_nil)) da_nil)) (dp_tup (da_cons (dp_var (pv 7)) (da_cons (dp_var (pv 8)) da_nil))) (nomark _)) (dw_or1 (dt_cmp (op_neS (k := 9) rfl (eqDs_cons (by exact cGrid_eq) (by decide) eqDs_nil) (by exact hr) (by decide)) dr_neS (dp_var (pv 4)) (dp_var (pv 9)) (nomark _))))))) (dss_one (ds_ret dp_bl)) dss_nil)
      (dss_cons (ds_for (vs := [3]) hp rfl (di_range1 (pi_range1 (by rfl) T.n_range (da_cons (dp_bfn (call_len) (drc_len rfl) (by rfl) T.n_len PySem.boot_len (da_cons (dp_var (pv 2)) da_nil)) da_nil))) (dg_of (pg_name (i := 3) sc_law.nd rfl (Or.inl rfl)) List.mem_cons_self) (dss_one (ds_for (vs := [11]) hp rfl (di_range1 (pi_range1 (by rfl) T.n_range (da_cons dp_int da_nil))) (dg_of (pg_name (i := 11) sc_law.nd rfl (Or.inl rfl)) List.mem_cons_self) (dss_cons (ds_par (ps_par (i := 5) (j := 12) rfl sc_law.nd rfl rfl (by decide) rfl rfl (da_cons (dp_add rfl dp_int (dp_cal (by exact c_law_draw) (by exact hr) (by decide) (by exact tk) (by rfl) (da_cons (dp_var (pv 1)) (da_cons (dp_add rfl (dp_var (pv 7)) dp_int) da_nil)))) (da_cons (dp_add rfl dp_int (dp_cal (by exact c_law_draw) (by exact hr) (by decide) (by exact tk) (by rfl) (da_cons (dp_var (pv 1)) (da_cons (dp_add rfl (dp_var (pv 8)) dp_int) da_nil)))) da_nil)) rfl rfl))
      (dss_cons (ds_if (dt_cmp op_ltX dr_ord (dp_var (pv 11)) dp_int (nomark _)) (dss_cons (ds_set (ps_set (i := 5) sc_law.nd rfl (Or.inl rfl) (dp_cal (by exact c_law_pick) (by exact hr) (by decide) (by exact tk) (by rfl) (da_cons (dp_var (pv 1)) (da_cons (dp_lst (da_cons (dp_bfn (call_len) (drc_len rfl) (by rfl) T.n_len PySem.boot_len (da_cons (dp_ix rfl (dp_var (pv 2)) (dp_var (pv 3))) da_nil)) (da_cons (dp_add rfl (dp_bfn (call_len) (drc_len rfl) (by rfl) T.n_len PySem.boot_len (da_cons (dp_ix rfl (dp_var (pv 2)) (dp_var (pv 3))) da_nil)) dp_int) (da_cons dp_int (da_cons (dp_pow dp_int dp_int) da_nil))))) da_nil)))))
      (dss_one (ds_set (ps_set (i := 12) sc_law.nd rfl (Or.inl rfl) (dp_cal (by exact c_law_pick) (by exact hr) (by decide) (by exact tk) (by rfl) (da_cons (dp_var (pv 1)) (da_cons (dp_lst (da_cons dp_int (da_cons (dp_bfn (call_len) (drc_len rfl) (by rfl) T.n_len PySem.boot_len (da_cons (dp_ix rfl (dp_ix rfl (dp_var (pv 2)) (dp_var (pv 3))) dp_int) da_nil)) (da_cons (dp_add rfl (dp_bfn (call_len) (drc_len rfl) (by rfl) T.n_len PySem.boot_len (da_cons (dp_ix rfl (dp_ix rfl (dp_var (pv 2)) (dp_var (pv 3))) dp_int) da_nil)) dp_int) da_nil)))) da_nil))))))) dss_nil)
      (dss_one (ds_if (dt_not (dt_val (dp_cal (by exact c_law_same) (by exact hr) (by decide) (by exact tk) (by rfl) (da_cons (dp_cal (by exact cpart_at) (by exact hr) (by decide) (by exact tk) (by rfl) (da_cons (dp_ix rfl (dp_var (pv 4)) (dp_var (pv 3))) (da_cons (dp_var (pv 5)) (da_cons (dp_var (pv 12)) da_nil)))) (da_cons (dp_cal (by exact c_law_given) (by exact hr) (by decide) (by exact tk) (by rfl) (da_cons (dp_ix rfl (dp_var (pv 2)) (dp_var (pv 3))) (da_cons (dp_var (pv 5)) (da_cons (dp_var (pv 12)) da_nil)))) da_nil))))) (dss_one (ds_ret dp_bl)) dss_nil)))))))
      (dss_one (ds_ret (dp_cal (by exact c_law_are_refused) (by exact hr) (by decide) (by exact tk) (by rfl) (da_cons (dp_var (pv 1)) (da_cons (dp_ix rfl (dp_var (pv 4)) dp_int) da_nil))))))))))))
end
end K43

set_option Elab.async false
set_option linter.all false
set_option maxRecDepth 100000
set_option maxHeartbeats 8000000
set_option autoImplicit false
namespace K43
open PySem PySem.Spec PyProof.Rows L2 DL
theorem vals_pick (is : List Nat) : ∀ {vs : List V} {us : List Value}, Vals vs us → Vals (is.filterMap (vs[·]?)) (is.filterMap (us[·]?)) := by
  intro vs us h
  induction is with
  | nil => exact .nil
  | cons i is ih =>
    cases e : vs[i]? with
    | none =>
      have e2 : us[i]? = none := by
        rw [List.getElem?_eq_none_iff] at e ⊢
        rw [← h.length]
        exact e
      rw [List.filterMap_cons_none (by exact e), List.filterMap_cons_none (by exact e2)]
      exact ih
    | some x =>
      obtain ⟨u, e2, r⟩ := h.get e
      rw [List.filterMap_cons_some (by exact e), List.filterMap_cons_some (by exact e2)]
      exact .cons r ih
theorem isl_pick {M : LK} {G : Hp} (is : List Nat) {vs : List V} {ds : List D} (h : DL.IsL M G vs ds) : DL.IsL M G (is.filterMap (vs[·]?)) (is.filterMap (ds[·]?)) := by
  have get : ∀ {ds : List D} {vs : List V} (i : Nat), DL.IsL M G vs ds → (vs[i]? = none ∧ ds[i]? = none) ∨ ∃ v d, vs[i]? = some v ∧ ds[i]? = some d ∧ Is M G v d := by
    intro ds
    induction ds with
    | nil =>
      intro vs i h
      cases vs with
      | nil => exact .inl ⟨rfl, rfl⟩
      | cons v vs => simp only [DL.IsL] at h
    | cons d ds ih =>
      intro vs i h
      cases vs with
      | nil => simp only [DL.IsL] at h
      | cons v vs =>
        simp only [DL.IsL] at h
        cases i with
        | zero => exact .inr ⟨v, d, rfl, rfl, h.1⟩
        | succ i => exact ih i h.2
  induction is with
  | nil => simp only [List.filterMap_nil, DL.IsL]
  | cons i is ih =>
    rcases get i h with ⟨e, e2⟩ | ⟨v, d, e, e2, r⟩
    · rw [List.filterMap_cons_none (by exact e), List.filterMap_cons_none (by exact e2)]
      exact ih
    · rw [List.filterMap_cons_some (by exact e), List.filterMap_cons_some (by exact e2)]
      simp only [DL.IsL]
      exact ⟨r, ih⟩
theorem dfnD {M : LK} {P : Program} {w : World} {mg : Str → Option Value} {base : Heap} {x qual : Str} {st : Stmt} {f : Addr} {fd : FuncData} {N ps : List Str} {k : Nat} {s : DSp} {dvs : List V} {kws : List (Str × V)} (F : FunD M.L.K x qual (defArgs st) (defBody st) (defScope st) dvs kws f fd) (S : FnScope N ps (defScope st)) (t : DTS)
    (hb : ∀ (cdv : Value) (A : Around) (outer : List Env) (s0 : Shared) (H : Hp) (E : XK), Room k (A.deeper (envOfC qual (defScope st) s0.heap.objs.size f cdv)) →
      PSs (cxOf (L2.CX P w) P w M.L.K mg base N qual (defScope st) f cdv A outer s0 H E) (defBody st) (liftS M (fun cls d _ H' => E cls d H') t))
    (hs : ∀ ds n q e, ds.length = ps.length → s ds n q e → t { nx := fun _ n' => q .non n', rt := q, ex := fun _ => e } (startD N ds) n) :
    FnOk P w M.L.K mg base (L2.CX P w) (k + 1) f fd ps (lift M ps.length s) := by
  obtain ⟨oc, od, dV, kV, doc, pm, an, cdv, ct, osl, rfl, lk, hcd, _, _⟩ := F.ex
  refine fn_of lk hcd S (fun vs H Q E h => lift_len h) (fun A outer s0 H vs Q E hr h => ⟨_, hb cdv A outer s0 H E hr, ?_⟩)
  obtain ⟨pn, G, n, ds, q, e, R, hi, hk, hsp, hQ, hE⟩ := h
  refine ⟨pn, G, n, _, _, R.start hi, hs ds n q e hk hsp, ⟨fun G' σ' δ' n' H' A' R' h' => hQ G' .non .non n' H' A' R'.bare (by simp only [Is]) h', fun G' σ' δ' v d n' H' A' R' i' h' => hQ G' v d n' H' A' R'.bare i' h', fun G' σ' δ' n' H' A' R' h' => h'.elim, fun G' σ' δ' n' H' A' R' h' => h'.elim,
    fun G' σ' δ' C a ns xs n' H' A' R' x' h' => hE G' C a ns xs n' H' A' R'.bare x' h'⟩⟩
section
variable {P : Program} {w : World} {K : PySem.W.Frag} {mg : Str → Option Value} {base : Heap} {A : Ad} {pn : Addr} {cs : List Int} {Tb : List (Addr × Str)}
theorem cal_need_items (T : Txt P K mg A) (D : DefT K mg "need_items" (top 11) ["value"])  : CalD P w K mg base (MM K Tb pn cs) 2 "need_items" ["value"] (s_need_items A) :=
  CalD.of (M := (MM K Tb pn cs)) D sc_need_items (t_need_items K A cs) (fun f cdv A0 outer s0 H E hr => b_need_items T  f cdv A0 outer s0 H E hr) (fun ds n q e hl h => p_need_items T ds n q e hl h)
theorem cal_is_number (T : Txt P K mg A) (D : DefT K mg "is_number" (top 118) ["thing"])  : CalD P w K mg base (MM K Tb pn cs) 2 "is_number" ["thing"] (s_is_number A) :=
  CalD.of (M := (MM K Tb pn cs)) D sc_is_number (t_is_number K A cs) (fun f cdv A0 outer s0 H E hr => b_is_number T  f cdv A0 outer s0 H E hr) (fun ds n q e hl h => p_is_number T ds n q e hl h)
theorem cal_is_text (T : Txt P K mg A) (D : DefT K mg "is_text" (top 119) ["thing"])  : CalD P w K mg base (MM K Tb pn cs) 2 "is_text" ["thing"] (s_is_text A) :=
  CalD.of (M := (MM K Tb pn cs)) D sc_is_text (t_is_text K A cs) (fun f cdv A0 outer s0 H E hr => b_is_text T  f cdv A0 outer s0 H E hr) (fun ds n q e hl h => p_is_text ds n q e hl h)
theorem cal_is_value (T : Txt P K mg A) (D : DefT K mg "is_value" (top 120) ["thing"]) (cis_number : CalD P w K mg base (MM K Tb pn cs) 2 "is_number" ["thing"] (s_is_number A)) (cis_text : CalD P w K mg base (MM K Tb pn cs) 2 "is_text" ["thing"] (s_is_text A)) : CalD P w K mg base (MM K Tb pn cs) 3 "is_value" ["thing"] (s_is_value A) :=
  CalD.of (M := (MM K Tb pn cs)) D sc_is_value (t_is_value K A cs) (fun f cdv A0 outer s0 H E hr => b_is_value T cis_number cis_text f cdv A0 outer s0 H E hr) (fun ds n q e hl h => p_is_value T ds n q e hl h)
theorem cal_is_row (T : Txt P K mg A) (D : DefT K mg "is_row" (top 123) ["thing"]) (cis_value : CalD P w K mg base (MM K Tb pn cs) 3 "is_value" ["thing"] (s_is_value A)) : CalD P w K mg base (MM K Tb pn cs) 4 "is_row" ["thing"] (s_is_row A) :=
  CalD.of (M := (MM K Tb pn cs)) D sc_is_row (t_is_row K A cs) (fun f cdv A0 outer s0 H E hr => b_is_row T cis_value f cdv A0 outer s0 H E hr) (fun ds n q e hl h => p_is_row ds n q e hl h)
theorem cal_need_rows (T : Txt P K mg A) (D : DefT K mg "need_rows" (top 124) ["rows"]) (cis_row : CalD P w K mg base (MM K Tb pn cs) 4 "is_row" ["thing"] (s_is_row A)) (cneed_items : CalD P w K mg base (MM K Tb pn cs) 2 "need_items" ["value"] (s_need_items A)) : CalD P w K mg base (MM K Tb pn cs) 5 "need_rows" ["rows"] (s_need_rows A) :=
  CalD.of (M := (MM K Tb pn cs)) D sc_need_rows (t_need_rows K A cs) (fun f cdv A0 outer s0 H E hr => b_need_rows T cis_row cneed_items f cdv A0 outer s0 H E hr) (fun ds n q e hl h => p_need_rows ds n q e hl h)
theorem cal_is_integer (T : Txt P K mg A) (D : DefT K mg "is_integer" (top 9) ["value"])  : CalD P w K mg base (MM K Tb pn cs) 2 "is_integer" ["value"] (s_is_integer A) :=
  CalD.of (M := (MM K Tb pn cs)) D sc_is_integer (t_is_integer K A cs) (fun f cdv A0 outer s0 H E hr => b_is_integer T  f cdv A0 outer s0 H E hr) (fun ds n q e hl h => p_is_integer ds n q e hl h)
theorem cal_is_corner (T : Txt P K mg A) (D : DefT K mg "is_corner" (top 12) ["value"]) (cis_integer : CalD P w K mg base (MM K Tb pn cs) 2 "is_integer" ["value"] (s_is_integer A)) : CalD P w K mg base (MM K Tb pn cs) 3 "is_corner" ["value"] (s_is_corner A) :=
  CalD.of (M := (MM K Tb pn cs)) D sc_is_corner (t_is_corner K A cs) (fun f cdv A0 outer s0 H E hr => b_is_corner T cis_integer f cdv A0 outer s0 H E hr) (fun ds n q e hl h => p_is_corner ds n q e hl h)
theorem ok_Grid_init (T : Txt P K mg A) {f : Addr} {fd : FuncData} (F : FunD K "__init__" "Grid.__init__" (defArgs (inClass (top 125) 0)) (defBody (inClass (top 125) 0)) (defScope (inClass (top 125) 0)) [.non] [] f fd) (cis_corner : CalD P w K mg base (MM K Tb pn cs) 3 "is_corner" ["value"] (s_is_corner A)) (cneed_rows : CalD P w K mg base (MM K Tb pn cs) 5 "need_rows" ["rows"] (s_need_rows A)) : FnOk P w K mg base (L2.CX P w) 6 f fd ["self", "rows", "corner"] (lift (MM K Tb pn cs) 3 (s_Grid_init A)) :=
  dfnD (M := (MM K Tb pn cs)) F sc_Grid_init (t_Grid_init K A cs) (fun cdv A0 outer s0 H E hr => b_Grid_init T cis_corner cneed_rows f cdv A0 outer s0 H E hr) (fun ds n q e hl h => p_Grid_init ds n q e hl h)
theorem cal_Grid_new3 (T : Txt P K mg A) {f : Addr} {fd : FuncData} (FD : FunD K "__init__" "Grid.__init__" (defArgs (inClass (top 125) 0)) (defBody (inClass (top 125) 0)) (defScope (inClass (top 125) 0)) [.non] [] f fd) (mk : Mk K A.Grid f) (cis_corner : CalD P w K mg base (MM K Tb pn cs) 3 "is_corner" ["value"] (s_is_corner A)) (cneed_rows : CalD P w K mg base (MM K Tb pn cs) 5 "need_rows" ["rows"] (s_need_rows A)) : NewD P w K mg base (MM K Tb pn cs) 6 "Grid" 1 [] g_Grid_new3 (s_Grid A) := by
  obtain ⟨mv, kb⟩ := FD.kbindsD (ps := ["self", "rows", "corner"]) 2 [] (fun {α : Type} us mv ws => ([0, 1, 2] : List Nat).filterMap ((us ++ (mv ++ ws))[·]?)) (by simp) (fun h1 h2 h3 => vals_pick _ (h1.append (h2.append h3))) (fun D kV doc pm an cdv ct us mv ws l1 l2 l3 => match us, l1, mv, l2, ws, l3 with | [_, _], _, [_], _, [], _ => ⟨_, rfl, rfl⟩)
  refine ⟨A.Grid, f, fd, _, _, _, 3, s_Grid_init A, mk, T.c_Grid, ok_Grid_init T FD cis_corner cneed_rows, kb, fun G a vs zs ds es i1 i2 l1 l2 => ?_, new_Grid⟩
  have i0 := isl_pick (M := (MM K Tb pn cs)) ([0, 1, 2] : List Nat) (DL.IsL.append (vs := V.ref a :: vs) (ds := D.ref a :: ds) (by simp only [DL.IsL, Is]; exact ⟨trivial, i1⟩) (DL.IsL.append (vs := [.non]) (ds := [.non]) (by simp [DL.IsL, Is]) i2))
  match ds, l1, es, l2, i0 with
  | [d0], _, [], _, i0 => exact ⟨i0, rfl⟩
theorem cal_stretch (T : Txt P K mg A) (D : DefT K mg "stretch" (top 127) ["grids"])  : CalD P w K mg base (MM K Tb pn cs) 2 "stretch" ["grids"] (s_stretch A) :=
  CalD.of (M := (MM K Tb pn cs)) D sc_stretch (t_stretch K A cs) (fun f cdv A0 outer s0 H E hr => b_stretch T  f cdv A0 outer s0 H E hr) (fun ds n q e hl h => p_stretch ds n q e hl h)
theorem cal_stretched (T : Txt P K mg A) (D : DefT K mg "stretched" (top 129) ["grids"]) (cneed_items : CalD P w K mg base (MM K Tb pn cs) 2 "need_items" ["value"] (s_need_items A)) (cstretch : CalD P w K mg base (MM K Tb pn cs) 2 "stretch" ["grids"] (s_stretch A)) : CalD P w K mg base (MM K Tb pn cs) 3 "stretched" ["grids"] (s_stretched A) :=
  CalD.of (M := (MM K Tb pn cs)) D sc_stretched (t_stretched K A cs) (fun f cdv A0 outer s0 H E hr => b_stretched T cneed_items cstretch f cdv A0 outer s0 H E hr) (fun ds n q e hl h => p_stretched T ds n q e hl h)
theorem cal__law_draw (T : Txt P K mg A) (D : DefT K mg "_law_draw" (top 133) ["_law_pen", "_law_span"])  : CalD P w K mg base (MM K Tb pn cs) 2 "_law_draw" ["_law_pen", "_law_span"] (s__law_draw A) :=
  CalD.of (M := (MM K Tb pn cs)) D sc__law_draw (t__law_draw K A cs) (fun f cdv A0 outer s0 H E hr => b__law_draw T  f cdv A0 outer s0 H E hr) (fun ds n q e hl h => p__law_draw ds n q e hl h)
theorem cal__law_pick (T : Txt P K mg A) (D : DefT K mg "_law_pick" (top 134) ["_law_pen", "_law_some"]) (c_law_draw : CalD P w K mg base (MM K Tb pn cs) 2 "_law_draw" ["_law_pen", "_law_span"] (s__law_draw A)) : CalD P w K mg base (MM K Tb pn cs) 3 "_law_pick" ["_law_pen", "_law_some"] (s__law_pick A) :=
  CalD.of (M := (MM K Tb pn cs)) D sc__law_pick (t__law_pick K A cs) (fun f cdv A0 outer s0 H E hr => b__law_pick T c_law_draw f cdv A0 outer s0 H E hr) (fun ds n q e hl h => p__law_pick ds n q e hl h)
theorem ok_Ratio_eq (T : Txt P K mg A) {f : Addr} {fd : FuncData} (F : Fun K "__eq__" "Ratio.__eq__" (inClass (top 17) 1) f fd)  : FnOk P w K mg base (L2.CX P w) 2 f fd ["self", "other"] (lift (MM K Tb pn cs) 2 (s_Ratio_eq A)) :=
  dfn (M := (MM K Tb pn cs)) F sc_Ratio_eq (t_Ratio_eq K A cs) (fun cdv A0 outer s0 H E hr => b_Ratio_eq T  f cdv A0 outer s0 H E hr) (fun ds n q e hl h => p_Ratio_eq T ds n q e hl h)
theorem cal_Ratio_eq (T : Txt P K mg A) {f : Addr} {fd : FuncData} (F : Fun K "__eq__" "Ratio.__eq__" (inClass (top 17) 1) f fd) (B : Binds K fd ["self", "other"] []) (C : OB.EqC K A.Ratio f)  : EqD P w K mg base (MM K Tb pn cs) 2 A.Ratio (s_Ratio_eq A) := ⟨f, fd, _, C, ok_Ratio_eq T F , B⟩
theorem okN_Ratio_eq (T : Txt P K mg A) {f : Addr} {fd : FuncData} (F : Fun K "__eq__" "Ratio.__eq__" (inClass (top 17) 1) f fd)  : NH.FnN P w K mg base (L2.CX P w) 2 f fd ["self", "other"] (lift (MM K Tb pn cs) 2 (s_Ratio_eq A)) :=
  dfnN (M := (MM K Tb pn cs)) F sc_Ratio_eq (t_Ratio_eq K A cs) (fun cdv A0 outer s0 H E hr => bh_Ratio_eq T  f cdv A0 outer s0 H E hr) (fun ds n q e hl h => p_Ratio_eq T ds n q e hl h)
theorem cal_Ratio_eqN (T : Txt P K mg A) {f : Addr} {fd : FuncData} (F : Fun K "__eq__" "Ratio.__eq__" (inClass (top 17) 1) f fd) (B : Binds K fd ["self", "other"] []) (C : OB.EqC K A.Ratio f)  : EqDN P w K mg base (MM K Tb pn cs) 2 A.Ratio (s_Ratio_eq A) := ⟨f, fd, _, C, okN_Ratio_eq T F , B⟩
theorem ok_Fault_eq (T : Txt P K mg A) {f : Addr} {fd : FuncData} (F : Fun K "__eq__" "Fault.__eq__" (inClass (top 117) 1) f fd)  : FnOk P w K mg base (L2.CX P w) 2 f fd ["self", "other"] (lift (MM K Tb pn cs) 2 (s_Fault_eq A)) :=
  dfn (M := (MM K Tb pn cs)) F sc_Fault_eq (t_Fault_eq K A cs) (fun cdv A0 outer s0 H E hr => b_Fault_eq T  f cdv A0 outer s0 H E hr) (fun ds n q e hl h => p_Fault_eq T ds n q e hl h)
theorem cal_Fault_eq (T : Txt P K mg A) {f : Addr} {fd : FuncData} (F : Fun K "__eq__" "Fault.__eq__" (inClass (top 117) 1) f fd) (B : Binds K fd ["self", "other"] []) (C : OB.EqC K A.Fault f)  : EqD P w K mg base (MM K Tb pn cs) 2 A.Fault (s_Fault_eq A) := ⟨f, fd, _, C, ok_Fault_eq T F , B⟩
theorem okN_Fault_eq (T : Txt P K mg A) {f : Addr} {fd : FuncData} (F : Fun K "__eq__" "Fault.__eq__" (inClass (top 117) 1) f fd)  : NH.FnN P w K mg base (L2.CX P w) 2 f fd ["self", "other"] (lift (MM K Tb pn cs) 2 (s_Fault_eq A)) :=
  dfnN (M := (MM K Tb pn cs)) F sc_Fault_eq (t_Fault_eq K A cs) (fun cdv A0 outer s0 H E hr => bh_Fault_eq T  f cdv A0 outer s0 H E hr) (fun ds n q e hl h => p_Fault_eq T ds n q e hl h)
theorem cal_Fault_eqN (T : Txt P K mg A) {f : Addr} {fd : FuncData} (F : Fun K "__eq__" "Fault.__eq__" (inClass (top 117) 1) f fd) (B : Binds K fd ["self", "other"] []) (C : OB.EqC K A.Fault f)  : EqDN P w K mg base (MM K Tb pn cs) 2 A.Fault (s_Fault_eq A) := ⟨f, fd, _, C, okN_Fault_eq T F , B⟩
theorem ok_Grid_eq (T : Txt P K mg A) {f : Addr} {fd : FuncData} (F : Fun K "__eq__" "Grid.__eq__" (inClass (top 125) 1) f fd) (cFault_eq : EqD P w K mg base (MM K Tb pn cs) 2 A.Fault (s_Fault_eq A)) (cRatio_eq : EqD P w K mg base (MM K Tb pn cs) 2 A.Ratio (s_Ratio_eq A)) : FnOk P w K mg base (L2.CX P w) 9 f fd ["self", "other"] (lift (MM K Tb pn cs) 2 (s_Grid_eq A)) :=
  dfn (M := (MM K Tb pn cs)) F sc_Grid_eq (t_Grid_eq K A cs) (fun cdv A0 outer s0 H E hr => b_Grid_eq T cFault_eq cRatio_eq f cdv A0 outer s0 H E hr) (fun ds n q e hl h => p_Grid_eq T ds n q e hl h)
theorem cal_Grid_eq (T : Txt P K mg A) {f : Addr} {fd : FuncData} (F : Fun K "__eq__" "Grid.__eq__" (inClass (top 125) 1) f fd) (B : Binds K fd ["self", "other"] []) (C : OB.EqC K A.Grid f) (cFault_eq : EqD P w K mg base (MM K Tb pn cs) 2 A.Fault (s_Fault_eq A)) (cRatio_eq : EqD P w K mg base (MM K Tb pn cs) 2 A.Ratio (s_Ratio_eq A)) : EqD P w K mg base (MM K Tb pn cs) 9 A.Grid (s_Grid_eq A) := ⟨f, fd, _, C, ok_Grid_eq T F cFault_eq cRatio_eq, B⟩
theorem okN_Grid_eq (T : Txt P K mg A) {f : Addr} {fd : FuncData} (F : Fun K "__eq__" "Grid.__eq__" (inClass (top 125) 1) f fd) (cFault_eqN : EqDN P w K mg base (MM K Tb pn cs) 2 A.Fault (s_Fault_eq A)) (cRatio_eqN : EqDN P w K mg base (MM K Tb pn cs) 2 A.Ratio (s_Ratio_eq A)) : NH.FnN P w K mg base (L2.CX P w) 9 f fd ["self", "other"] (lift (MM K Tb pn cs) 2 (s_Grid_eq A)) :=
  dfnN (M := (MM K Tb pn cs)) F sc_Grid_eq (t_Grid_eq K A cs) (fun cdv A0 outer s0 H E hr => bh_Grid_eq T cFault_eqN cRatio_eqN f cdv A0 outer s0 H E hr) (fun ds n q e hl h => p_Grid_eq T ds n q e hl h)
theorem cal_Grid_eqN (T : Txt P K mg A) {f : Addr} {fd : FuncData} (F : Fun K "__eq__" "Grid.__eq__" (inClass (top 125) 1) f fd) (B : Binds K fd ["self", "other"] []) (C : OB.EqC K A.Grid f) (cFault_eqN : EqDN P w K mg base (MM K Tb pn cs) 2 A.Fault (s_Fault_eq A)) (cRatio_eqN : EqDN P w K mg base (MM K Tb pn cs) 2 A.Ratio (s_Ratio_eq A)) : EqDN P w K mg base (MM K Tb pn cs) 9 A.Grid (s_Grid_eq A) := ⟨f, fd, _, C, okN_Grid_eq T F cFault_eqN cRatio_eqN, B⟩
theorem ok_Fault_init (T : Txt P K mg A) {f : Addr} {fd : FuncData} (F : Fun K "__init__" "Fault.__init__" (inClass (top 117) 0) f fd)  : FnOk P w K mg base (L2.CX P w) 2 f fd ["self", "kind"] (lift (MM K Tb pn cs) 2 (s_Fault_init A)) :=
  dfn (M := (MM K Tb pn cs)) F sc_Fault_init (t_Fault_init K A cs) (fun cdv A0 outer s0 H E hr => b_Fault_init T  f cdv A0 outer s0 H E hr) (fun ds n q e hl h => p_Fault_init ds n q e hl h)
theorem cal_Fault_new0 (T : Txt P K mg A) {f : Addr} {fd : FuncData} (F : Fun K "__init__" "Fault.__init__" (inClass (top 117) 0) f fd) (FD : FunD K "__init__" "Fault.__init__" (defArgs (inClass (top 117) 0)) (defBody (inClass (top 117) 0)) (defScope (inClass (top 117) 0)) [] [] f fd) (mk : Mk K A.Fault f)  : NewD P w K mg base (MM K Tb pn cs) 2 "Fault" 1 [] g_Fault_new0 (s_Fault A) := by
  have B : Binds K fd ["self", "kind"] [] := F.binds (ps := ["self", "kind"]) fun _ _ _ _ _ _ us hl => match us, hl with | [_, _], _ => rfl
  have kb : KBn K fd ["self", "kind"] 2 [] (fun us ws => ([0, 1] : List Nat).filterMap ((us ++ ([] ++ ws))[·]?)) (fun vs zs => ([0, 1] : List Nat).filterMap ((vs ++ ([] ++ zs))[·]?)) :=
    ⟨fun s us ws X l1 l2 => match us, l1, ws, l2 with | [u0, u1], _, [], _ => B s [u0, u1] X rfl, fun r1 r2 => vals_pick _ (r1.append (r2))⟩
  refine ⟨A.Fault, f, fd, _, _, _, 2, s_Fault_init A, mk, T.c_Fault, ok_Fault_init T F , kb, fun G a vs zs ds es i1 i2 l1 l2 => ?_, new_Fault⟩
  have i0 := isl_pick (M := (MM K Tb pn cs)) ([0, 1] : List Nat) (DL.IsL.append (vs := V.ref a :: vs) (ds := D.ref a :: ds) (by simp only [DL.IsL, Is]; exact ⟨trivial, i1⟩) (DL.IsL.append (vs := []) (ds := []) (by simp [DL.IsL, Is]) i2))
  match ds, l1, es, l2, i0 with
  | [d0], _, [], _, i0 => exact ⟨i0, rfl⟩
theorem cal_part_within (T : Txt P K mg A) (D : DefT K mg "part_within" (top 128) ["grid", "row", "column"]) (cFault_new0 : NewD P w K mg base (MM K Tb pn cs) 2 "Fault" 1 [] g_Fault_new0 (s_Fault A)) : CalD P w K mg base (MM K Tb pn cs) 4 "part_within" ["grid", "row", "column"] (s_part_within A) :=
  CalD.of (M := (MM K Tb pn cs)) D sc_part_within (t_part_within K A cs) (fun f cdv A0 outer s0 H E hr => b_part_within T cFault_new0 f cdv A0 outer s0 H E hr) (fun ds n q e hl h => p_part_within ds n q e hl h)
theorem cal_part_at (T : Txt P K mg A) (D : DefT K mg "part_at" (top 130) ["grid", "row", "column"]) (cis_integer : CalD P w K mg base (MM K Tb pn cs) 2 "is_integer" ["value"] (s_is_integer A)) (cpart_within : CalD P w K mg base (MM K Tb pn cs) 4 "part_within" ["grid", "row", "column"] (s_part_within A)) : CalD P w K mg base (MM K Tb pn cs) 5 "part_at" ["grid", "row", "column"] (s_part_at A) :=
  CalD.of (M := (MM K Tb pn cs)) D sc_part_at (t_part_at K A cs) (fun f cdv A0 outer s0 H E hr => b_part_at T cis_integer cpart_within f cdv A0 outer s0 H E hr) (fun ds n q e hl h => p_part_at T ds n q e hl h)
theorem cal__law_are_refused (T : Txt P K mg A) (D : DefC K mg "_law_are_refused" (top 140) ["_law_pen", "_law_grid"] A.k_law_are_refused) (cGrid_eqN : EqDN P w K mg base (MM K Tb pn cs) 9 A.Grid (s_Grid_eq A)) (c_law_pick : CalD P w K mg base (MM K Tb pn cs) 3 "_law_pick" ["_law_pen", "_law_some"] (s__law_pick A)) (cpart_at : CalD P w K mg base (MM K Tb pn cs) 5 "part_at" ["grid", "row", "column"] (s_part_at A)) (cstretched : CalD P w K mg base (MM K Tb pn cs) 3 "stretched" ["grids"] (s_stretched A)) (TB : LamX.TabB base mg A.k_law_are_refused A.p_law_are_refused) (TM : (A.p_law_are_refused, (("_law_are_refused" : Str) ++ ".<locals>." ++ "<lambda>")) ∈ Tb) (TU : ∀ p ∈ Tb, p.1 = A.p_law_are_refused → p.2 = (("_law_are_refused" : Str) ++ ".<locals>." ++ "<lambda>")) : CalD P w K mg base (MM K Tb pn cs) 20 "_law_are_refused" ["_law_pen", "_law_grid"] (s__law_are_refused A) :=
  CalD.ofCF (M := (MM K Tb pn cs)) D sc__law_are_refused (fun fr => t__law_are_refused K A cs fr Lm__law_are_refused) (fun f A0 outer s0 H E hr => b__law_are_refused T cGrid_eqN c_law_pick cpart_at cstretched TB TM TU f A0 outer s0 H E hr) (fun fr ds n q e hl h => p__law_are_refused T ds n q e hl h)
theorem cal_need_integer (T : Txt P K mg A) (D : DefT K mg "need_integer" (top 10) ["value"]) (cis_integer : CalD P w K mg base (MM K Tb pn cs) 2 "is_integer" ["value"] (s_is_integer A)) : CalD P w K mg base (MM K Tb pn cs) 3 "need_integer" ["value"] (s_need_integer A) :=
  CalD.of (M := (MM K Tb pn cs)) D sc_need_integer (t_need_integer K A cs) (fun f cdv A0 outer s0 H E hr => b_need_integer T cis_integer f cdv A0 outer s0 H E hr) (fun ds n q e hl h => p_need_integer ds n q e hl h)
theorem cal_common_whole (T : Txt P K mg A) (D : DefT K mg "common_whole" (top 14) ["one", "other"])  : CalD P w K mg base (MM K Tb pn cs) 2 "common_whole" ["one", "other"] (s_common_whole A) :=
  CalD.of (M := (MM K Tb pn cs)) D sc_common_whole (t_common_whole K A cs) (fun f cdv A0 outer s0 H E hr => b_common_whole T  f cdv A0 outer s0 H E hr) (fun ds n q e hl h => p_common_whole ds n q e hl h)
theorem ok_Ratio_init (T : Txt P K mg A) {f : Addr} {fd : FuncData} (F : FunD K "__init__" "Ratio.__init__" (defArgs (inClass (top 17) 0)) (defBody (inClass (top 17) 0)) (defScope (inClass (top 17) 0)) [(.int 1)] [] f fd) (ccommon_whole : CalD P w K mg base (MM K Tb pn cs) 2 "common_whole" ["one", "other"] (s_common_whole A)) (cneed_integer : CalD P w K mg base (MM K Tb pn cs) 3 "need_integer" ["value"] (s_need_integer A)) : FnOk P w K mg base (L2.CX P w) 4 f fd ["self", "top", "bottom"] (lift (MM K Tb pn cs) 3 (s_Ratio_init A)) :=
  dfnD (M := (MM K Tb pn cs)) F sc_Ratio_init (t_Ratio_init K A cs) (fun cdv A0 outer s0 H E hr => b_Ratio_init T ccommon_whole cneed_integer f cdv A0 outer s0 H E hr) (fun ds n q e hl h => p_Ratio_init ds n q e hl h)
theorem cal_Ratio_new1 (T : Txt P K mg A) {f : Addr} {fd : FuncData} (FD : FunD K "__init__" "Ratio.__init__" (defArgs (inClass (top 17) 0)) (defBody (inClass (top 17) 0)) (defScope (inClass (top 17) 0)) [(.int 1)] [] f fd) (mk : Mk K A.Ratio f) (ccommon_whole : CalD P w K mg base (MM K Tb pn cs) 2 "common_whole" ["one", "other"] (s_common_whole A)) (cneed_integer : CalD P w K mg base (MM K Tb pn cs) 3 "need_integer" ["value"] (s_need_integer A)) : NewD P w K mg base (MM K Tb pn cs) 4 "Ratio" 2 [] g_Ratio_new1 (s_Ratio A) := by
  obtain ⟨mv, kb⟩ := FD.kbindsD (ps := ["self", "top", "bottom"]) 3 [] (fun {α : Type} us mv ws => ([0, 1, 2] : List Nat).filterMap ((us ++ (mv ++ ws))[·]?)) (by simp) (fun h1 h2 h3 => vals_pick _ (h1.append (h2.append h3))) (fun D kV doc pm an cdv ct us mv ws l1 l2 l3 => match us, l1, mv, l2, ws, l3 with | [_, _, _], _, [_], _, [], _ => ⟨_, rfl, rfl⟩)
  refine ⟨A.Ratio, f, fd, _, _, _, 3, s_Ratio_init A, mk, T.c_Ratio, ok_Ratio_init T FD ccommon_whole cneed_integer, kb, fun G a vs zs ds es i1 i2 l1 l2 => ?_, new_Ratio⟩
  have i0 := isl_pick (M := (MM K Tb pn cs)) ([0, 1, 2] : List Nat) (DL.IsL.append (vs := V.ref a :: vs) (ds := D.ref a :: ds) (by simp only [DL.IsL, Is]; exact ⟨trivial, i1⟩) (DL.IsL.append (vs := [(.int 1)]) (ds := [(.int 1)]) (by simp [DL.IsL, Is]) i2))
  match ds, l1, es, l2, i0 with
  | [d0, d1], _, [], _, i0 => exact ⟨i0, rfl⟩
theorem cal_Ratio_new2 (T : Txt P K mg A) {f : Addr} {fd : FuncData} (FD : FunD K "__init__" "Ratio.__init__" (defArgs (inClass (top 17) 0)) (defBody (inClass (top 17) 0)) (defScope (inClass (top 17) 0)) [(.int 1)] [] f fd) (mk : Mk K A.Ratio f) (ccommon_whole : CalD P w K mg base (MM K Tb pn cs) 2 "common_whole" ["one", "other"] (s_common_whole A)) (cneed_integer : CalD P w K mg base (MM K Tb pn cs) 3 "need_integer" ["value"] (s_need_integer A)) : NewD P w K mg base (MM K Tb pn cs) 4 "Ratio" 1 [] g_Ratio_new2 (s_Ratio A) := by
  obtain ⟨mv, kb⟩ := FD.kbindsD (ps := ["self", "top", "bottom"]) 2 [] (fun {α : Type} us mv ws => ([0, 1, 2] : List Nat).filterMap ((us ++ (mv ++ ws))[·]?)) (by simp) (fun h1 h2 h3 => vals_pick _ (h1.append (h2.append h3))) (fun D kV doc pm an cdv ct us mv ws l1 l2 l3 => match us, l1, mv, l2, ws, l3 with | [_, _], _, [_], _, [], _ => ⟨_, rfl, rfl⟩)
  refine ⟨A.Ratio, f, fd, _, _, _, 3, s_Ratio_init A, mk, T.c_Ratio, ok_Ratio_init T FD ccommon_whole cneed_integer, kb, fun G a vs zs ds es i1 i2 l1 l2 => ?_, new_Ratio⟩
  have i0 := isl_pick (M := (MM K Tb pn cs)) ([0, 1, 2] : List Nat) (DL.IsL.append (vs := V.ref a :: vs) (ds := D.ref a :: ds) (by simp only [DL.IsL, Is]; exact ⟨trivial, i1⟩) (DL.IsL.append (vs := [(.int 1)]) (ds := [(.int 1)]) (by simp [DL.IsL, Is]) i2))
  match ds, l1, es, l2, i0 with
  | [d0], _, [], _, i0 => exact ⟨i0, rfl⟩
theorem cal__law_value (T : Txt P K mg A) (D : DefT K mg "_law_value" (top 135) ["_law_pen"]) (cFault_new0 : NewD P w K mg base (MM K Tb pn cs) 2 "Fault" 1 [] g_Fault_new0 (s_Fault A)) (cRatio_new1 : NewD P w K mg base (MM K Tb pn cs) 4 "Ratio" 2 [] g_Ratio_new1 (s_Ratio A)) (c_law_draw : CalD P w K mg base (MM K Tb pn cs) 2 "_law_draw" ["_law_pen", "_law_span"] (s__law_draw A)) (c_law_pick : CalD P w K mg base (MM K Tb pn cs) 3 "_law_pick" ["_law_pen", "_law_some"] (s__law_pick A)) : CalD P w K mg base (MM K Tb pn cs) 6 "_law_value" ["_law_pen"] (s__law_value A) :=
  CalD.of (M := (MM K Tb pn cs)) D sc__law_value (t__law_value K A cs) (fun f cdv A0 outer s0 H E hr => b__law_value T cFault_new0 cRatio_new1 c_law_draw c_law_pick f cdv A0 outer s0 H E hr) (fun ds n q e hl h => p__law_value ds n q e hl h)
theorem cal__law_rows (T : Txt P K mg A) (D : DefT K mg "_law_rows" (top 136) ["_law_pen"]) (cRatio_new2 : NewD P w K mg base (MM K Tb pn cs) 4 "Ratio" 1 [] g_Ratio_new2 (s_Ratio A)) (c_law_draw : CalD P w K mg base (MM K Tb pn cs) 2 "_law_draw" ["_law_pen", "_law_span"] (s__law_draw A)) (c_law_pick : CalD P w K mg base (MM K Tb pn cs) 3 "_law_pick" ["_law_pen", "_law_some"] (s__law_pick A)) (c_law_value : CalD P w K mg base (MM K Tb pn cs) 6 "_law_value" ["_law_pen"] (s__law_value A)) : CalD P w K mg base (MM K Tb pn cs) 7 "_law_rows" ["_law_pen"] (s__law_rows A) :=
  CalD.of (M := (MM K Tb pn cs)) D sc__law_rows (t__law_rows K A cs) (fun f cdv A0 outer s0 H E hr => b__law_rows T cRatio_new2 c_law_draw c_law_pick c_law_value f cdv A0 outer s0 H E hr) (fun ds n q e hl h => p__law_rows ds n q e hl h)
theorem cal__law_same (T : Txt P K mg A) (D : DefT K mg "_law_same" (top 138) ["_law_one", "_law_other"]) (cFault_eq : EqD P w K mg base (MM K Tb pn cs) 2 A.Fault (s_Fault_eq A)) (cRatio_eq : EqD P w K mg base (MM K Tb pn cs) 2 A.Ratio (s_Ratio_eq A)) : CalD P w K mg base (MM K Tb pn cs) 9 "_law_same" ["_law_one", "_law_other"] (s__law_same A) :=
  CalD.of (M := (MM K Tb pn cs)) D sc__law_same (t__law_same K A cs) (fun f cdv A0 outer s0 H E hr => b__law_same T cFault_eq cRatio_eq f cdv A0 outer s0 H E hr) (fun ds n q e hl h => p__law_same T ds n q e hl h)
theorem cal__law_given (T : Txt P K mg A) (D : DefT K mg "_law_given" (top 137) ["_law_rows_here", "_law_row", "_law_column"]) (cFault_new0 : NewD P w K mg base (MM K Tb pn cs) 2 "Fault" 1 [] g_Fault_new0 (s_Fault A)) : CalD P w K mg base (MM K Tb pn cs) 4 "_law_given" ["_law_rows_here", "_law_row", "_law_column"] (s__law_given A) :=
  CalD.of (M := (MM K Tb pn cs)) D sc__law_given (t__law_given K A cs) (fun f cdv A0 outer s0 H E hr => b__law_given T cFault_new0 f cdv A0 outer s0 H E hr) (fun ds n q e hl h => p__law_given ds n q e hl h)
theorem sc__law_begin : FnScope ["_law_script"] ["_law_script"] (defScope (top 132)) := ⟨rfl, rfl, rfl, by decide +kernel, rfl, by decide +kernel, by decide +kernel⟩
theorem ok_pen {f : Addr} {fd : FuncData} (F : Fun K "_law_begin" "_law_begin" (top 132) f fd) (hl : mg "list" = none) : FnOk P w K mg base (L2.CX P w) 2 f fd ["_law_script"] (spPen K "begun" "left") := by
  refine F.okX sc__law_begin (fun vs H Q E h => ?_) (fun cdv A outer s H vs Q E hr h => ⟨tPen K "begun" "left", ?_, pen_pure (by decide) (by decide) (by decide) vs H Q E h⟩)
  · obtain ⟨a, ns, rfl, _⟩ := h
    rfl
  · exact pss_one (ps_ret (pe_disp (pps_cons pe_str (pe_callTy call_list_of (by rfl) hl PyProof.Rows.boot_list (pa_cons (pe_slice sl_list (pv 0) po_none (po_some pe_int)) pa_nil)) (pps_cons pe_str pe_int (pps_cons pe_str pe_int pps_nil))) rfl rfl (by decide) (by decide)))
theorem ok_law {f fp : Addr} {fd fdp : FuncData} (T : Txt P K mg A) (F : Fun K "law" "law" (top 141) f fd) (Fp : Fun K "_law_begin" "_law_begin" (top 132) fp fdp) (bp : Binds K fdp ["_law_script"] []) (gp : mg "_law_begin" = some (.ref fp)) (kp : PySem.W.keepIn K (.ref fp) = true) (hl : mg "list" = none) (cGrid_eq : ∀ pn cs, EqD P w K mg base (MM K Tb pn cs) 9 A.Grid (s_Grid_eq A)) (cGrid_new3 : ∀ pn cs, NewD P w K mg base (MM K Tb pn cs) 6 "Grid" 1 [] g_Grid_new3 (s_Grid A)) (c_law_are_refused : ∀ pn cs, CalD P w K mg base (MM K Tb pn cs) 20 "_law_are_refused" ["_law_pen", "_law_grid"] (s__law_are_refused A)) (c_law_draw : ∀ pn cs, CalD P w K mg base (MM K Tb pn cs) 2 "_law_draw" ["_law_pen", "_law_span"] (s__law_draw A)) (c_law_given : ∀ pn cs, CalD P w K mg base (MM K Tb pn cs) 4 "_law_given" ["_law_rows_here", "_law_row", "_law_column"] (s__law_given A)) (c_law_pick : ∀ pn cs, CalD P w K mg base (MM K Tb pn cs) 3 "_law_pick" ["_law_pen", "_law_some"] (s__law_pick A)) (c_law_rows : ∀ pn cs, CalD P w K mg base (MM K Tb pn cs) 7 "_law_rows" ["_law_pen"] (s__law_rows A)) (c_law_same : ∀ pn cs, CalD P w K mg base (MM K Tb pn cs) 9 "_law_same" ["_law_one", "_law_other"] (s__law_same A)) (cpart_at : ∀ pn cs, CalD P w K mg base (MM K Tb pn cs) 5 "part_at" ["grid", "row", "column"] (s_part_at A)) (cstretched : ∀ pn cs, CalD P w K mg base (MM K Tb pn cs) 3 "stretched" ["grids"] (s_stretched A)) :
    FnOk P w K mg base (L2.CX P w) 21 f fd ["_law_script"] (spLaw K Tb) := by
  refine F.okX sc_law (fun vs H Q E h => ?_) (fun cdv A0 outer s0 H vs Q E hr h => ⟨_, ?_, law_pure (K := K) (T := Tb) (ka := "begun") (kl := "left") (W := fun cls d _ H => E cls d H) (WS := WE fun cls d _ H => E cls d H) (N := N_law) (m := 11) (t := fun cs => t_law K A cs) rfl (fun cs _ => p_law cs) vs H Q E h⟩)
  · obtain ⟨a, ns, rfl, _⟩ := h
    rfl
  · have tk : Takes (XC P w K mg base N_law "law" (top 141) f cdv A0 outer s0 H E) (fun cls d _ H => E cls d H) := takes_of rfl rfl rfl rfl
    have h2 : PSs (XC P w K mg base N_law "law" (top 141) f cdv A0 outer s0 H E) ((defBody (top 141)).drop 1) (tLaw K Tb "begun" "left" (fun cls d _ H => E cls d H) fun cs => t_law K A cs) := pss_law fun pn cs => b_law T (cGrid_eq pn cs) (cGrid_new3 pn cs) (c_law_are_refused pn cs) (c_law_draw pn cs) (c_law_given pn cs) (c_law_pick pn cs) (c_law_rows pn cs) (c_law_same pn cs) (cpart_at pn cs) (cstretched pn cs) f cdv A0 outer s0 H E hr
    exact pss_cons (ps_set (i := 1) sc_law.nd rfl (by first | exact Or.inl rfl | exact Or.inr rfl) (pe_callSD (dvs := []) (ds := []) (ok_pen Fp hl) (hr.mono (by decide)) rfl gp kp bp .nil (fun σ => passAt tk σ) (pa_cons (pv 0) pa_nil))) h2
end
theorem fin (l : PySem.W.OpenLaw) {w : World} {K : PySem.W.Frag} {h : Heap} {mg : Str → Option Value} {fa : Addr} (X : K.In h) (G : h.Ns mainGlobals mg) (hfa : mg "law" = some (.ref fa))
    {v_MOST_SIGNS : Int} {tk_MOST_SIGNS : Tok} {v_MOST_VALUES : Int} {tk_MOST_VALUES : Tok} {T_FAULT_KINDS : Addr} {td_FAULT_KINDS : Option Addr} {tn_FAULT_KINDS : Nat} {ts_FAULT_KINDS : Array (Option Value)} {v0_FAULT_KINDS : Str} {tk0_FAULT_KINDS : Tok} {v1_FAULT_KINDS : Str} {tk1_FAULT_KINDS : Tok} {v2_FAULT_KINDS : Str} {tk2_FAULT_KINDS : Tok} {v3_FAULT_KINDS : Str} {tk3_FAULT_KINDS : Tok} {v4_FAULT_KINDS : Str} {tk4_FAULT_KINDS : Tok} {v5_FAULT_KINDS : Str} {tk5_FAULT_KINDS : Tok} {v6_FAULT_KINDS : Str} {tk6_FAULT_KINDS : Tok} {v7_FAULT_KINDS : Str} {tk7_FAULT_KINDS : Tok} {C_BadValue : Addr} {C_Fault : Addr} {C_Grid : Addr} {C_Member : Addr} {C_NoDivisor : Addr} {C_Ratio : Addr} {C_Strand : Addr} {nm_BadValue q_BadValue : Str} {N_BadValue : Addr} {bs_BadValue bm_BadValue sub_BadValue : List Value} {sn_BadValue : List Str} {ab_BadValue : Bool} {col_BadValue : Option Bool} {dd_BadValue : Option Addr} {m0_BadValue m1_BadValue m2_BadValue m3_BadValue m5_BadValue : Option Value} {fI_BadValue : Addr} {oc_BadValue dc_BadValue pm_BadValue ct_BadValue : Value} {od_BadValue an_BadValue : Option Addr} {cd_BadValue cc_BadValue : Addr} {sl_BadValue : Array (Option Value)} {ccl_BadValue : Value} {cdd_BadValue : Option Addr} {vs_BadValue : Array Value} {ccs_BadValue : Array (Option Value)} {fl_BadValue : Str} {tf_BadValue : Tok} {cl_BadValue : Value} {cld_BadValue : Option Addr} {csl_BadValue : Array (Option Value)} {nm_NoDivisor q_NoDivisor : Str} {N_NoDivisor : Addr} {bs_NoDivisor bm_NoDivisor sub_NoDivisor : List Value} {sn_NoDivisor : List Str} {ab_NoDivisor : Bool} {col_NoDivisor : Option Bool} {dd_NoDivisor : Option Addr} {m0_NoDivisor m1_NoDivisor m2_NoDivisor m3_NoDivisor m5_NoDivisor : Option Value} {f_Grid_init : Addr} {ocGrid_init dcGrid_init pmGrid_init cvGrid_init ctGrid_init : Value} {odGrid_init anGrid_init : Option Addr} {slGrid_init : Array (Option Value)} {kVGrid_init : Value} {T_Grid_init : Addr} {tcGrid_init : Value} {tdGrid_init : Option Addr} {tnGrid_init : Nat} {tsGrid_init : Array (Option Value)}  {f_Ratio_eq : Addr} {ocRatio_eq dcRatio_eq pmRatio_eq cvRatio_eq ctRatio_eq : Value} {odRatio_eq anRatio_eq : Option Addr} {slRatio_eq : Array (Option Value)} {kVRatio_eq : Value} {f_Fault_eq : Addr} {ocFault_eq dcFault_eq pmFault_eq cvFault_eq ctFault_eq : Value} {odFault_eq anFault_eq : Option Addr} {slFault_eq : Array (Option Value)} {kVFault_eq : Value} {f_Grid_eq : Addr} {ocGrid_eq dcGrid_eq pmGrid_eq cvGrid_eq ctGrid_eq : Value} {odGrid_eq anGrid_eq : Option Addr} {slGrid_eq : Array (Option Value)} {kVGrid_eq : Value} {f_Fault_init : Addr} {ocFault_init dcFault_init pmFault_init cvFault_init ctFault_init : Value} {odFault_init anFault_init : Option Addr} {slFault_init : Array (Option Value)} {kVFault_init : Value} {f_Ratio_init : Addr} {ocRatio_init dcRatio_init pmRatio_init cvRatio_init ctRatio_init : Value} {odRatio_init anRatio_init : Option Addr} {slRatio_init : Array (Option Value)} {kVRatio_init : Value} {T_Ratio_init : Addr} {tcRatio_init : Value} {tdRatio_init : Option Addr} {tnRatio_init : Nat} {tsRatio_init : Array (Option Value)} {tkRatio_init_bottom : Tok} {f_need_items : Addr} {ocneed_items kVneed_items dcneed_items pmneed_items cvneed_items ctneed_items : Value} {odneed_items anneed_items : Option Addr} {slneed_items : Array (Option Value)} {f_is_number : Addr} {ocis_number kVis_number dcis_number pmis_number cvis_number ctis_number : Value} {odis_number anis_number : Option Addr} {slis_number : Array (Option Value)} {f_is_text : Addr} {ocis_text kVis_text dcis_text pmis_text cvis_text ctis_text : Value} {odis_text anis_text : Option Addr} {slis_text : Array (Option Value)} {f_is_value : Addr} {ocis_value kVis_value dcis_value pmis_value cvis_value ctis_value : Value} {odis_value anis_value : Option Addr} {slis_value : Array (Option Value)} {f_is_row : Addr} {ocis_row kVis_row dcis_row pmis_row cvis_row ctis_row : Value} {odis_row anis_row : Option Addr} {slis_row : Array (Option Value)} {f_need_rows : Addr} {ocneed_rows kVneed_rows dcneed_rows pmneed_rows cvneed_rows ctneed_rows : Value} {odneed_rows anneed_rows : Option Addr} {slneed_rows : Array (Option Value)} {f_is_integer : Addr} {ocis_integer kVis_integer dcis_integer pmis_integer cvis_integer ctis_integer : Value} {odis_integer anis_integer : Option Addr} {slis_integer : Array (Option Value)} {f_is_corner : Addr} {ocis_corner kVis_corner dcis_corner pmis_corner cvis_corner ctis_corner : Value} {odis_corner anis_corner : Option Addr} {slis_corner : Array (Option Value)} {f_stretch : Addr} {ocstretch kVstretch dcstretch pmstretch cvstretch ctstretch : Value} {odstretch anstretch : Option Addr} {slstretch : Array (Option Value)} {f_stretched : Addr} {ocstretched kVstretched dcstretched pmstretched cvstretched ctstretched : Value} {odstretched anstretched : Option Addr} {slstretched : Array (Option Value)} {f__law_draw : Addr} {oc_law_draw kV_law_draw dc_law_draw pm_law_draw cv_law_draw ct_law_draw : Value} {od_law_draw an_law_draw : Option Addr} {sl_law_draw : Array (Option Value)} {f__law_pick : Addr} {oc_law_pick kV_law_pick dc_law_pick pm_law_pick cv_law_pick ct_law_pick : Value} {od_law_pick an_law_pick : Option Addr} {sl_law_pick : Array (Option Value)} {f__law_refused : Addr} {oc_law_refused kV_law_refused dc_law_refused pm_law_refused ct_law_refused : Value} {od_law_refused an_law_refused : Option Addr} {sl_law_refused : Array (Option Value)} {c__law_refused : Addr} {f_part_within : Addr} {ocpart_within kVpart_within dcpart_within pmpart_within cvpart_within ctpart_within : Value} {odpart_within anpart_within : Option Addr} {slpart_within : Array (Option Value)} {f_part_at : Addr} {ocpart_at kVpart_at dcpart_at pmpart_at cvpart_at ctpart_at : Value} {odpart_at anpart_at : Option Addr} {slpart_at : Array (Option Value)} {f__law_are_refused : Addr} {oc_law_are_refused kV_law_are_refused dc_law_are_refused pm_law_are_refused ct_law_are_refused : Value} {od_law_are_refused an_law_are_refused : Option Addr} {sl_law_are_refused : Array (Option Value)} {c__law_are_refused : Addr} {f_need_integer : Addr} {ocneed_integer kVneed_integer dcneed_integer pmneed_integer cvneed_integer ctneed_integer : Value} {odneed_integer anneed_integer : Option Addr} {slneed_integer : Array (Option Value)} {f_common_whole : Addr} {occommon_whole kVcommon_whole dccommon_whole pmcommon_whole cvcommon_whole ctcommon_whole : Value} {odcommon_whole ancommon_whole : Option Addr} {slcommon_whole : Array (Option Value)} {f__law_value : Addr} {oc_law_value kV_law_value dc_law_value pm_law_value cv_law_value ct_law_value : Value} {od_law_value an_law_value : Option Addr} {sl_law_value : Array (Option Value)} {f__law_rows : Addr} {oc_law_rows kV_law_rows dc_law_rows pm_law_rows cv_law_rows ct_law_rows : Value} {od_law_rows an_law_rows : Option Addr} {sl_law_rows : Array (Option Value)} {f__law_same : Addr} {oc_law_same kV_law_same dc_law_same pm_law_same cv_law_same ct_law_same : Value} {od_law_same an_law_same : Option Addr} {sl_law_same : Array (Option Value)} {f__law_given : Addr} {oc_law_given kV_law_given dc_law_given pm_law_given cv_law_given ct_law_given : Value} {od_law_given an_law_given : Option Addr} {sl_law_given : Array (Option Value)} {f_law : Addr} {oclaw kVlaw dclaw pmlaw cvlaw ctlaw : Value} {odlaw anlaw : Option Addr} {sllaw : Array (Option Value)} {f__law_begin : Addr} {oc_law_begin kV_law_begin dc_law_begin pm_law_begin cv_law_begin ct_law_begin : Value} {od_law_begin an_law_begin : Option Addr} {sl_law_begin : Array (Option Value)} {p__law_are_refused : Addr} {cw_law_are_refused : Value} {cx_law_are_refused : Option Addr} {cy_law_are_refused : Array Value} {cz_law_are_refused : Array (Option Value)}
    (hn_abs : PySem.W.nsIn K mainGlobals "abs" = some none)
    (hn_all : PySem.W.nsIn K mainGlobals "all" = some none)
    (hn_bool : PySem.W.nsIn K mainGlobals "bool" = some none)
    (hn_int : PySem.W.nsIn K mainGlobals "int" = some none)
    (hn_isinstance : PySem.W.nsIn K mainGlobals "isinstance" = some none)
    (hn_len : PySem.W.nsIn K mainGlobals "len" = some none)
    (hn_list : PySem.W.nsIn K mainGlobals "list" = some none)
    (hn_max : PySem.W.nsIn K mainGlobals "max" = some none)
    (hn_range : PySem.W.nsIn K mainGlobals "range" = some none)
    (hn_str : PySem.W.nsIn K mainGlobals "str" = some none)
    (hn_tuple : PySem.W.nsIn K mainGlobals "tuple" = some none)
    (hn_super : PySem.W.nsIn K mainGlobals "super" = some none)
    (hg_MOST_SIGNS : PySem.W.nsIn K mainGlobals "MOST_SIGNS" = some (some (.int v_MOST_SIGNS tk_MOST_SIGNS)))
    (he_MOST_SIGNS : v_MOST_SIGNS = 1000)
    (hg_MOST_VALUES : PySem.W.nsIn K mainGlobals "MOST_VALUES" = some (some (.int v_MOST_VALUES tk_MOST_VALUES)))
    (he_MOST_VALUES : v_MOST_VALUES = 10000)
    (hg_FAULT_KINDS : PySem.W.nsIn K mainGlobals "FAULT_KINDS" = some (some (.ref T_FAULT_KINDS)))
    (hlt_FAULT_KINDS : K.lookup T_FAULT_KINDS = some ⟨.type "tuple", td_FAULT_KINDS, .seq #[.str v0_FAULT_KINDS tk0_FAULT_KINDS, .str v1_FAULT_KINDS tk1_FAULT_KINDS, .str v2_FAULT_KINDS tk2_FAULT_KINDS, .str v3_FAULT_KINDS tk3_FAULT_KINDS, .str v4_FAULT_KINDS tk4_FAULT_KINDS, .str v5_FAULT_KINDS tk5_FAULT_KINDS, .str v6_FAULT_KINDS tk6_FAULT_KINDS, .str v7_FAULT_KINDS tk7_FAULT_KINDS] tn_FAULT_KINDS, ts_FAULT_KINDS⟩)
    (he0_FAULT_KINDS : v0_FAULT_KINDS = DL.S [68, 73, 86])
    (he1_FAULT_KINDS : v1_FAULT_KINDS = DL.S [86, 65, 76, 85, 69])
    (he2_FAULT_KINDS : v2_FAULT_KINDS = DL.S [82, 69, 70])
    (he3_FAULT_KINDS : v3_FAULT_KINDS = DL.S [78, 65, 77, 69])
    (he4_FAULT_KINDS : v4_FAULT_KINDS = DL.S [78, 85, 77])
    (he5_FAULT_KINDS : v5_FAULT_KINDS = DL.S [78, 65])
    (he6_FAULT_KINDS : v6_FAULT_KINDS = DL.S [83, 80, 73, 76, 76])
    (he7_FAULT_KINDS : v7_FAULT_KINDS = DL.S [82, 73, 78, 71])
    (ha_BadValue : PySem.W.nsIn K mainGlobals "BadValue" = some (some (.ref C_BadValue)))
    (ha_Fault : PySem.W.nsIn K mainGlobals "Fault" = some (some (.ref C_Fault)))
    (ha_Grid : PySem.W.nsIn K mainGlobals "Grid" = some (some (.ref C_Grid)))
    (ha_Member : PySem.W.nsIn K mainGlobals "Member" = some (some (.ref C_Member)))
    (ha_NoDivisor : PySem.W.nsIn K mainGlobals "NoDivisor" = some (some (.ref C_NoDivisor)))
    (ha_Ratio : PySem.W.nsIn K mainGlobals "Ratio" = some (some (.ref C_Ratio)))
    (ha_Strand : PySem.W.nsIn K mainGlobals "Strand" = some (some (.ref C_Strand)))
    (hex_BadValue : PySem.W.subIn K (.ref C_BadValue) (.type "BaseException") = some true)
    (hhd_BadValue : PySem.W.hasDictIn K C_BadValue = true)
    (hty_BadValue : PySem.W.typeIn K (.ref C_BadValue) = some (.type "type"))
    (hga_BadValue : PySem.W.findIn K (.ref C_BadValue) "__getattribute__" = some (some (.builtin "BaseException.__getattribute__")))
    (hgg_BadValue : PySem.W.findIn K (.ref C_BadValue) "__getattr__" = some none)
    (hno_BadValue_value : PySem.W.findIn K (.ref C_BadValue) "value" = some none)
    (hex_NoDivisor : PySem.W.subIn K (.ref C_NoDivisor) (.type "BaseException") = some true)
    (hhd_NoDivisor : PySem.W.hasDictIn K C_NoDivisor = true)
    (hty_NoDivisor : PySem.W.typeIn K (.ref C_NoDivisor) = some (.type "type"))
    (hopq : PySem.W.nsIn K PySem.cStatics "thirdparty.any" = some none)
    (hhtop : (l.prog.main.scope.names.lookup ("super" : Str)).isSome = false)
    (hx_BadValue : K.lookup C_BadValue = some (excClassObj nm_BadValue q_BadValue C_BadValue N_BadValue bs_BadValue bm_BadValue true sn_BadValue sub_BadValue ab_BadValue col_BadValue dd_BadValue m0_BadValue m1_BadValue m2_BadValue m3_BadValue m5_BadValue "ValueError.__new__"))
    (hv_BadValue : PySem.HandSPX.refsVE bm_BadValue = true)
    (hsa_BadValue : PySem.W.findIn K (.ref C_BadValue) "__setattr__" = some (some (.builtin "object.__setattr__")))
    (hi_BadValue : PySem.W.findIn K (.ref C_BadValue) "__init__" = some (some (.ref fI_BadValue)))
    (ht_BadValue : PySem.W.typeIn K (.ref fI_BadValue) = some (.type "function"))
    (hl_BadValue : K.lookup fI_BadValue = some ⟨oc_BadValue, od_BadValue, .func (PySem.W.ksFn "__init__" "BadValue.__init__" (PySem.EX.iA "value" ⟨9, 17, 9, 21⟩ ⟨9, 23, 9, 28⟩) (PySem.EX.iB "value" ⟨10, 8, 10, 13⟩ ⟨10, 8, 10, 15⟩ ⟨10, 8, 10, 24⟩ ⟨10, 25, 10, 30⟩ ⟨10, 8, 10, 31⟩ ⟨10, 8, 10, 31⟩ ⟨11, 8, 11, 12⟩ ⟨11, 8, 11, 18⟩ ⟨11, 21, 11, 26⟩ ⟨11, 8, 11, 26⟩) (PySem.EX.iS "value") .none .none dc_BadValue pm_BadValue an_BadValue (.ref cd_BadValue) ct_BadValue cc_BadValue), sl_BadValue⟩)
    (hco_BadValue : PySem.W.codeIn K (.ref cd_BadValue) "BadValue.__init__" = true)
    (hlc_BadValue : K.lookup cd_BadValue = some ⟨ccl_BadValue, cdd_BadValue, .fields vs_BadValue, ccs_BadValue⟩)
    (hvf_BadValue : vs_BadValue[2]? = some (.str fl_BadValue tf_BadValue))
    (hff_BadValue : ((l.prog.main.file : Str) == fl_BadValue) = true)
    (hlx_BadValue : K.lookup cc_BadValue = some ⟨cl_BadValue, cld_BadValue, .cell (some (.ref C_BadValue)), csl_BadValue⟩)
    (hk_BadValue : PySem.W.keepIn K (.ref C_BadValue) = true)
    (hve_BadValue : PySem.W.subIn K (.ref C_BadValue) (.type "ValueError") = some true)
    (hsu_BadValue : PySem.W.ks_superIn K C_BadValue C_BadValue "__init__" = some (some (.builtin "ValueError.__init__")))
    (hse_BadValue : PySem.W.mroIn K C_BadValue (.ref C_BadValue) = some true)
    (hx_NoDivisor : K.lookup C_NoDivisor = some (excClassObj nm_NoDivisor q_NoDivisor C_NoDivisor N_NoDivisor bs_NoDivisor bm_NoDivisor true sn_NoDivisor sub_NoDivisor ab_NoDivisor col_NoDivisor dd_NoDivisor m0_NoDivisor m1_NoDivisor m2_NoDivisor m3_NoDivisor m5_NoDivisor "ValueError.__new__"))
    (hv_NoDivisor : PySem.HandSPX.refsVE bm_NoDivisor = true)
    (hi_NoDivisor : PySem.W.findIn K (.ref C_NoDivisor) "__init__" = some (some (.builtin "ValueError.__init__")))
    (hk_NoDivisor : PySem.W.keepIn K (.ref C_NoDivisor) = true)
    (hs_BadValue_BadValue : PySem.W.subIn K (.ref C_BadValue) (.ref C_BadValue) = some true)
    (hpg_Fault : PySem.W.plainGet K C_Fault Str.empty = true)
    (hhd_Fault : PySem.W.hasDictIn K C_Fault = true)
    (hpo_Fault : PySem.W.plainOver K C_Fault = true)
    (hsa_Fault : PySem.W.findIn K (.ref C_Fault) "__setattr__" = some (some (.builtin "object.__setattr__")))
    (hno_Fault_kind : PySem.W.findIn K (.ref C_Fault) "kind" = some none)
    (hha_Fault : PySem.W.findIn K (.ref C_Fault) "__class__" = some (some (.builtin "object.__class__")))
    (hhm_Fault : PySem.W.mroIn K C_Fault (.type "object") = some true)
    (hmk_Fault : PySem.W.makesIn K C_Fault = true)
    (hk_Fault : PySem.W.keepIn K (.ref C_Fault) = true)
    (hpg_Grid : PySem.W.plainGet K C_Grid Str.empty = true)
    (hhd_Grid : PySem.W.hasDictIn K C_Grid = true)
    (hpo_Grid : PySem.W.plainOver K C_Grid = true)
    (hsa_Grid : PySem.W.findIn K (.ref C_Grid) "__setattr__" = some (some (.builtin "object.__setattr__")))
    (hno_Grid_corner : PySem.W.findIn K (.ref C_Grid) "corner" = some none)
    (hno_Grid_height : PySem.W.findIn K (.ref C_Grid) "height" = some none)
    (hno_Grid_rows : PySem.W.findIn K (.ref C_Grid) "rows" = some none)
    (hno_Grid_width : PySem.W.findIn K (.ref C_Grid) "width" = some none)
    (hha_Grid : PySem.W.findIn K (.ref C_Grid) "__class__" = some (some (.builtin "object.__class__")))
    (hhm_Grid : PySem.W.mroIn K C_Grid (.type "object") = some true)
    (hmk_Grid : PySem.W.makesIn K C_Grid = true)
    (hk_Grid : PySem.W.keepIn K (.ref C_Grid) = true)
    (hpg_Ratio : PySem.W.plainGet K C_Ratio Str.empty = true)
    (hhd_Ratio : PySem.W.hasDictIn K C_Ratio = true)
    (hpo_Ratio : PySem.W.plainOver K C_Ratio = true)
    (hsa_Ratio : PySem.W.findIn K (.ref C_Ratio) "__setattr__" = some (some (.builtin "object.__setattr__")))
    (hno_Ratio_bottom : PySem.W.findIn K (.ref C_Ratio) "bottom" = some none)
    (hno_Ratio_top : PySem.W.findIn K (.ref C_Ratio) "top" = some none)
    (hha_Ratio : PySem.W.findIn K (.ref C_Ratio) "__class__" = some (some (.builtin "object.__class__")))
    (hhm_Ratio : PySem.W.mroIn K C_Ratio (.type "object") = some true)
    (hmk_Ratio : PySem.W.makesIn K C_Ratio = true)
    (hk_Ratio : PySem.W.keepIn K (.ref C_Ratio) = true)
    (hhn : PySem.W.specialIn K (.builtin "object.__class__") "__get__" = some (some (.builtin "getset_descriptor.__get__")))
    (hht : PySem.W.takesIn K (.builtin "object.__class__") = some true)
    (hkt_Ratio_Ratio : PySem.W.kitOne K (.ref C_Ratio) (.ref C_Ratio) = some true)
    (hkt_Fault_Fault : PySem.W.kitOne K (.ref C_Fault) (.ref C_Fault) = some true)
    (hkt_Grid_Grid : PySem.W.kitOne K (.ref C_Grid) (.ref C_Grid) = some true)
    (hkt_Ratio_bool : PySem.W.kitOne K (.ref C_Ratio) (.type "bool") = some false)
    (hkt_Ratio_Fault : PySem.W.kitOne K (.ref C_Ratio) (.ref C_Fault) = some false)
    (hkt_Fault_bool : PySem.W.kitOne K (.ref C_Fault) (.type "bool") = some false)
    (hkt_str_Ratio : PySem.W.kitOne K (.type "str") (.ref C_Ratio) = some false)
    (hkt_str_Strand : PySem.W.kitOne K (.type "str") (.ref C_Strand) = some false)
    (hkt_str_Member : PySem.W.kitOne K (.type "str") (.ref C_Member) = some false)
    (hkt_str_Fault : PySem.W.kitOne K (.type "str") (.ref C_Fault) = some false)
    (hkt_Grid_list : PySem.W.kitOne K (.ref C_Grid) (.type "list") = some false)
    (hkt_Grid_tuple : PySem.W.kitOne K (.ref C_Grid) (.type "tuple") = some false)
    (hkt_NoneType_Grid : PySem.W.kitOne K (.type "NoneType") (.ref C_Grid) = some false)
    (hkt_bool_Grid : PySem.W.kitOne K (.type "bool") (.ref C_Grid) = some false)
    (hkt_int_Grid : PySem.W.kitOne K (.type "int") (.ref C_Grid) = some false)
    (hkt_str_Grid : PySem.W.kitOne K (.type "str") (.ref C_Grid) = some false)
    (hkt_list_Grid : PySem.W.kitOne K (.type "list") (.ref C_Grid) = some false)
    (hfiGrid_init : PySem.W.findIn K (.ref C_Grid) "__init__" = some (some (.ref f_Grid_init)))
    (hlGrid_init : K.lookup f_Grid_init = some ⟨ocGrid_init, odGrid_init, .func (PySem.W.fnOf "__init__" "Grid.__init__" (defArgs (inClass (top 125) 0)) (defBody (inClass (top 125) 0)) (defScope (inClass (top 125) 0)) (.ref T_Grid_init) kVGrid_init dcGrid_init pmGrid_init anGrid_init cvGrid_init ctGrid_init), slGrid_init⟩)
    (hcGrid_init : PySem.W.codeIn K cvGrid_init "Grid.__init__" = true)
    (hkGrid_init : PySem.W.keepIn K (.ref f_Grid_init) = true)
    (hisfGrid_init : PySem.W.isFn K (.ref f_Grid_init) = true)
    (hltGrid_init : K.lookup T_Grid_init = some ⟨tcGrid_init, tdGrid_init, .seq #[.none] tnGrid_init, tsGrid_init⟩)
    (hfiRatio_eq : PySem.W.findIn K (.ref C_Ratio) "__eq__" = some (some (.ref f_Ratio_eq)))
    (hlRatio_eq : K.lookup f_Ratio_eq = some ⟨ocRatio_eq, odRatio_eq, .func (PySem.W.fnOf "__eq__" "Ratio.__eq__" (defArgs (inClass (top 17) 1)) (defBody (inClass (top 17) 1)) (defScope (inClass (top 17) 1)) .none kVRatio_eq dcRatio_eq pmRatio_eq anRatio_eq cvRatio_eq ctRatio_eq), slRatio_eq⟩)
    (hcRatio_eq : PySem.W.codeIn K cvRatio_eq "Ratio.__eq__" = true)
    (hkRatio_eq : PySem.W.keepIn K (.ref f_Ratio_eq) = true)
    (hisfRatio_eq : PySem.W.isFn K (.ref f_Ratio_eq) = true)
    (hneRatio_eq : PySem.W.findIn K (.ref C_Ratio) "__ne__" = some (some (.builtin "object.__ne__")))
    (hobRatio_eq : PySem.W.subIn K (.ref C_Ratio) (.type "object") = some true)
    (hfiFault_eq : PySem.W.findIn K (.ref C_Fault) "__eq__" = some (some (.ref f_Fault_eq)))
    (hlFault_eq : K.lookup f_Fault_eq = some ⟨ocFault_eq, odFault_eq, .func (PySem.W.fnOf "__eq__" "Fault.__eq__" (defArgs (inClass (top 117) 1)) (defBody (inClass (top 117) 1)) (defScope (inClass (top 117) 1)) .none kVFault_eq dcFault_eq pmFault_eq anFault_eq cvFault_eq ctFault_eq), slFault_eq⟩)
    (hcFault_eq : PySem.W.codeIn K cvFault_eq "Fault.__eq__" = true)
    (hkFault_eq : PySem.W.keepIn K (.ref f_Fault_eq) = true)
    (hisfFault_eq : PySem.W.isFn K (.ref f_Fault_eq) = true)
    (hneFault_eq : PySem.W.findIn K (.ref C_Fault) "__ne__" = some (some (.builtin "object.__ne__")))
    (hobFault_eq : PySem.W.subIn K (.ref C_Fault) (.type "object") = some true)
    (hfiGrid_eq : PySem.W.findIn K (.ref C_Grid) "__eq__" = some (some (.ref f_Grid_eq)))
    (hlGrid_eq : K.lookup f_Grid_eq = some ⟨ocGrid_eq, odGrid_eq, .func (PySem.W.fnOf "__eq__" "Grid.__eq__" (defArgs (inClass (top 125) 1)) (defBody (inClass (top 125) 1)) (defScope (inClass (top 125) 1)) .none kVGrid_eq dcGrid_eq pmGrid_eq anGrid_eq cvGrid_eq ctGrid_eq), slGrid_eq⟩)
    (hcGrid_eq : PySem.W.codeIn K cvGrid_eq "Grid.__eq__" = true)
    (hkGrid_eq : PySem.W.keepIn K (.ref f_Grid_eq) = true)
    (hisfGrid_eq : PySem.W.isFn K (.ref f_Grid_eq) = true)
    (hneGrid_eq : PySem.W.findIn K (.ref C_Grid) "__ne__" = some (some (.builtin "object.__ne__")))
    (hobGrid_eq : PySem.W.subIn K (.ref C_Grid) (.type "object") = some true)
    (hfiFault_init : PySem.W.findIn K (.ref C_Fault) "__init__" = some (some (.ref f_Fault_init)))
    (hlFault_init : K.lookup f_Fault_init = some ⟨ocFault_init, odFault_init, .func (PySem.W.fnOf "__init__" "Fault.__init__" (defArgs (inClass (top 117) 0)) (defBody (inClass (top 117) 0)) (defScope (inClass (top 117) 0)) .none kVFault_init dcFault_init pmFault_init anFault_init cvFault_init ctFault_init), slFault_init⟩)
    (hcFault_init : PySem.W.codeIn K cvFault_init "Fault.__init__" = true)
    (hkFault_init : PySem.W.keepIn K (.ref f_Fault_init) = true)
    (hisfFault_init : PySem.W.isFn K (.ref f_Fault_init) = true)
    (hfiRatio_init : PySem.W.findIn K (.ref C_Ratio) "__init__" = some (some (.ref f_Ratio_init)))
    (hlRatio_init : K.lookup f_Ratio_init = some ⟨ocRatio_init, odRatio_init, .func (PySem.W.fnOf "__init__" "Ratio.__init__" (defArgs (inClass (top 17) 0)) (defBody (inClass (top 17) 0)) (defScope (inClass (top 17) 0)) (.ref T_Ratio_init) kVRatio_init dcRatio_init pmRatio_init anRatio_init cvRatio_init ctRatio_init), slRatio_init⟩)
    (hcRatio_init : PySem.W.codeIn K cvRatio_init "Ratio.__init__" = true)
    (hkRatio_init : PySem.W.keepIn K (.ref f_Ratio_init) = true)
    (hisfRatio_init : PySem.W.isFn K (.ref f_Ratio_init) = true)
    (hltRatio_init : K.lookup T_Ratio_init = some ⟨tcRatio_init, tdRatio_init, .seq #[.int 1 tkRatio_init_bottom] tnRatio_init, tsRatio_init⟩)
    (haneed_items : PySem.W.nsIn K mainGlobals "need_items" = some (some (.ref f_need_items)))
    (hlneed_items : K.lookup f_need_items = some ⟨ocneed_items, odneed_items, .func (PySem.W.fnOf "need_items" "need_items" (defArgs (top 11)) (defBody (top 11)) (defScope (top 11)) .none kVneed_items dcneed_items pmneed_items anneed_items cvneed_items ctneed_items), slneed_items⟩)
    (hcneed_items : PySem.W.codeIn K cvneed_items "need_items" = true)
    (hkneed_items : PySem.W.keepIn K (.ref f_need_items) = true)
    (hais_number : PySem.W.nsIn K mainGlobals "is_number" = some (some (.ref f_is_number)))
    (hlis_number : K.lookup f_is_number = some ⟨ocis_number, odis_number, .func (PySem.W.fnOf "is_number" "is_number" (defArgs (top 118)) (defBody (top 118)) (defScope (top 118)) .none kVis_number dcis_number pmis_number anis_number cvis_number ctis_number), slis_number⟩)
    (hcis_number : PySem.W.codeIn K cvis_number "is_number" = true)
    (hkis_number : PySem.W.keepIn K (.ref f_is_number) = true)
    (hais_text : PySem.W.nsIn K mainGlobals "is_text" = some (some (.ref f_is_text)))
    (hlis_text : K.lookup f_is_text = some ⟨ocis_text, odis_text, .func (PySem.W.fnOf "is_text" "is_text" (defArgs (top 119)) (defBody (top 119)) (defScope (top 119)) .none kVis_text dcis_text pmis_text anis_text cvis_text ctis_text), slis_text⟩)
    (hcis_text : PySem.W.codeIn K cvis_text "is_text" = true)
    (hkis_text : PySem.W.keepIn K (.ref f_is_text) = true)
    (hais_value : PySem.W.nsIn K mainGlobals "is_value" = some (some (.ref f_is_value)))
    (hlis_value : K.lookup f_is_value = some ⟨ocis_value, odis_value, .func (PySem.W.fnOf "is_value" "is_value" (defArgs (top 120)) (defBody (top 120)) (defScope (top 120)) .none kVis_value dcis_value pmis_value anis_value cvis_value ctis_value), slis_value⟩)
    (hcis_value : PySem.W.codeIn K cvis_value "is_value" = true)
    (hkis_value : PySem.W.keepIn K (.ref f_is_value) = true)
    (hais_row : PySem.W.nsIn K mainGlobals "is_row" = some (some (.ref f_is_row)))
    (hlis_row : K.lookup f_is_row = some ⟨ocis_row, odis_row, .func (PySem.W.fnOf "is_row" "is_row" (defArgs (top 123)) (defBody (top 123)) (defScope (top 123)) .none kVis_row dcis_row pmis_row anis_row cvis_row ctis_row), slis_row⟩)
    (hcis_row : PySem.W.codeIn K cvis_row "is_row" = true)
    (hkis_row : PySem.W.keepIn K (.ref f_is_row) = true)
    (haneed_rows : PySem.W.nsIn K mainGlobals "need_rows" = some (some (.ref f_need_rows)))
    (hlneed_rows : K.lookup f_need_rows = some ⟨ocneed_rows, odneed_rows, .func (PySem.W.fnOf "need_rows" "need_rows" (defArgs (top 124)) (defBody (top 124)) (defScope (top 124)) .none kVneed_rows dcneed_rows pmneed_rows anneed_rows cvneed_rows ctneed_rows), slneed_rows⟩)
    (hcneed_rows : PySem.W.codeIn K cvneed_rows "need_rows" = true)
    (hkneed_rows : PySem.W.keepIn K (.ref f_need_rows) = true)
    (hais_integer : PySem.W.nsIn K mainGlobals "is_integer" = some (some (.ref f_is_integer)))
    (hlis_integer : K.lookup f_is_integer = some ⟨ocis_integer, odis_integer, .func (PySem.W.fnOf "is_integer" "is_integer" (defArgs (top 9)) (defBody (top 9)) (defScope (top 9)) .none kVis_integer dcis_integer pmis_integer anis_integer cvis_integer ctis_integer), slis_integer⟩)
    (hcis_integer : PySem.W.codeIn K cvis_integer "is_integer" = true)
    (hkis_integer : PySem.W.keepIn K (.ref f_is_integer) = true)
    (hais_corner : PySem.W.nsIn K mainGlobals "is_corner" = some (some (.ref f_is_corner)))
    (hlis_corner : K.lookup f_is_corner = some ⟨ocis_corner, odis_corner, .func (PySem.W.fnOf "is_corner" "is_corner" (defArgs (top 12)) (defBody (top 12)) (defScope (top 12)) .none kVis_corner dcis_corner pmis_corner anis_corner cvis_corner ctis_corner), slis_corner⟩)
    (hcis_corner : PySem.W.codeIn K cvis_corner "is_corner" = true)
    (hkis_corner : PySem.W.keepIn K (.ref f_is_corner) = true)
    (hastretch : PySem.W.nsIn K mainGlobals "stretch" = some (some (.ref f_stretch)))
    (hlstretch : K.lookup f_stretch = some ⟨ocstretch, odstretch, .func (PySem.W.fnOf "stretch" "stretch" (defArgs (top 127)) (defBody (top 127)) (defScope (top 127)) .none kVstretch dcstretch pmstretch anstretch cvstretch ctstretch), slstretch⟩)
    (hcstretch : PySem.W.codeIn K cvstretch "stretch" = true)
    (hkstretch : PySem.W.keepIn K (.ref f_stretch) = true)
    (hastretched : PySem.W.nsIn K mainGlobals "stretched" = some (some (.ref f_stretched)))
    (hlstretched : K.lookup f_stretched = some ⟨ocstretched, odstretched, .func (PySem.W.fnOf "stretched" "stretched" (defArgs (top 129)) (defBody (top 129)) (defScope (top 129)) .none kVstretched dcstretched pmstretched anstretched cvstretched ctstretched), slstretched⟩)
    (hcstretched : PySem.W.codeIn K cvstretched "stretched" = true)
    (hkstretched : PySem.W.keepIn K (.ref f_stretched) = true)
    (ha_law_draw : PySem.W.nsIn K mainGlobals "_law_draw" = some (some (.ref f__law_draw)))
    (hl_law_draw : K.lookup f__law_draw = some ⟨oc_law_draw, od_law_draw, .func (PySem.W.fnOf "_law_draw" "_law_draw" (defArgs (top 133)) (defBody (top 133)) (defScope (top 133)) .none kV_law_draw dc_law_draw pm_law_draw an_law_draw cv_law_draw ct_law_draw), sl_law_draw⟩)
    (hc_law_draw : PySem.W.codeIn K cv_law_draw "_law_draw" = true)
    (hk_law_draw : PySem.W.keepIn K (.ref f__law_draw) = true)
    (ha_law_pick : PySem.W.nsIn K mainGlobals "_law_pick" = some (some (.ref f__law_pick)))
    (hl_law_pick : K.lookup f__law_pick = some ⟨oc_law_pick, od_law_pick, .func (PySem.W.fnOf "_law_pick" "_law_pick" (defArgs (top 134)) (defBody (top 134)) (defScope (top 134)) .none kV_law_pick dc_law_pick pm_law_pick an_law_pick cv_law_pick ct_law_pick), sl_law_pick⟩)
    (hc_law_pick : PySem.W.codeIn K cv_law_pick "_law_pick" = true)
    (hk_law_pick : PySem.W.keepIn K (.ref f__law_pick) = true)
    (ha_law_refused : PySem.W.nsIn K mainGlobals "_law_refused" = some (some (.ref f__law_refused)))
    (hl_law_refused : K.lookup f__law_refused = some ⟨oc_law_refused, od_law_refused, .func (PySem.W.fnOf "_law_refused" "_law_refused" (defArgs (top 139)) (defBody (top 139)) (defScope (top 139)) .none kV_law_refused dc_law_refused pm_law_refused an_law_refused (.ref c__law_refused) ct_law_refused), sl_law_refused⟩)
    (hc_law_refused : PySem.W.codeIn K (.ref c__law_refused) "_law_refused" = true)
    (hk_law_refused : PySem.W.keepIn K (.ref f__law_refused) = true)
    (hapart_within : PySem.W.nsIn K mainGlobals "part_within" = some (some (.ref f_part_within)))
    (hlpart_within : K.lookup f_part_within = some ⟨ocpart_within, odpart_within, .func (PySem.W.fnOf "part_within" "part_within" (defArgs (top 128)) (defBody (top 128)) (defScope (top 128)) .none kVpart_within dcpart_within pmpart_within anpart_within cvpart_within ctpart_within), slpart_within⟩)
    (hcpart_within : PySem.W.codeIn K cvpart_within "part_within" = true)
    (hkpart_within : PySem.W.keepIn K (.ref f_part_within) = true)
    (hapart_at : PySem.W.nsIn K mainGlobals "part_at" = some (some (.ref f_part_at)))
    (hlpart_at : K.lookup f_part_at = some ⟨ocpart_at, odpart_at, .func (PySem.W.fnOf "part_at" "part_at" (defArgs (top 130)) (defBody (top 130)) (defScope (top 130)) .none kVpart_at dcpart_at pmpart_at anpart_at cvpart_at ctpart_at), slpart_at⟩)
    (hcpart_at : PySem.W.codeIn K cvpart_at "part_at" = true)
    (hkpart_at : PySem.W.keepIn K (.ref f_part_at) = true)
    (ha_law_are_refused : PySem.W.nsIn K mainGlobals "_law_are_refused" = some (some (.ref f__law_are_refused)))
    (hl_law_are_refused : K.lookup f__law_are_refused = some ⟨oc_law_are_refused, od_law_are_refused, .func (PySem.W.fnOf "_law_are_refused" "_law_are_refused" (defArgs (top 140)) (defBody (top 140)) (defScope (top 140)) .none kV_law_are_refused dc_law_are_refused pm_law_are_refused an_law_are_refused (.ref c__law_are_refused) ct_law_are_refused), sl_law_are_refused⟩)
    (hc_law_are_refused : PySem.W.codeIn K (.ref c__law_are_refused) "_law_are_refused" = true)
    (hk_law_are_refused : PySem.W.keepIn K (.ref f__law_are_refused) = true)
    (haneed_integer : PySem.W.nsIn K mainGlobals "need_integer" = some (some (.ref f_need_integer)))
    (hlneed_integer : K.lookup f_need_integer = some ⟨ocneed_integer, odneed_integer, .func (PySem.W.fnOf "need_integer" "need_integer" (defArgs (top 10)) (defBody (top 10)) (defScope (top 10)) .none kVneed_integer dcneed_integer pmneed_integer anneed_integer cvneed_integer ctneed_integer), slneed_integer⟩)
    (hcneed_integer : PySem.W.codeIn K cvneed_integer "need_integer" = true)
    (hkneed_integer : PySem.W.keepIn K (.ref f_need_integer) = true)
    (hacommon_whole : PySem.W.nsIn K mainGlobals "common_whole" = some (some (.ref f_common_whole)))
    (hlcommon_whole : K.lookup f_common_whole = some ⟨occommon_whole, odcommon_whole, .func (PySem.W.fnOf "common_whole" "common_whole" (defArgs (top 14)) (defBody (top 14)) (defScope (top 14)) .none kVcommon_whole dccommon_whole pmcommon_whole ancommon_whole cvcommon_whole ctcommon_whole), slcommon_whole⟩)
    (hccommon_whole : PySem.W.codeIn K cvcommon_whole "common_whole" = true)
    (hkcommon_whole : PySem.W.keepIn K (.ref f_common_whole) = true)
    (ha_law_value : PySem.W.nsIn K mainGlobals "_law_value" = some (some (.ref f__law_value)))
    (hl_law_value : K.lookup f__law_value = some ⟨oc_law_value, od_law_value, .func (PySem.W.fnOf "_law_value" "_law_value" (defArgs (top 135)) (defBody (top 135)) (defScope (top 135)) .none kV_law_value dc_law_value pm_law_value an_law_value cv_law_value ct_law_value), sl_law_value⟩)
    (hc_law_value : PySem.W.codeIn K cv_law_value "_law_value" = true)
    (hk_law_value : PySem.W.keepIn K (.ref f__law_value) = true)
    (ha_law_rows : PySem.W.nsIn K mainGlobals "_law_rows" = some (some (.ref f__law_rows)))
    (hl_law_rows : K.lookup f__law_rows = some ⟨oc_law_rows, od_law_rows, .func (PySem.W.fnOf "_law_rows" "_law_rows" (defArgs (top 136)) (defBody (top 136)) (defScope (top 136)) .none kV_law_rows dc_law_rows pm_law_rows an_law_rows cv_law_rows ct_law_rows), sl_law_rows⟩)
    (hc_law_rows : PySem.W.codeIn K cv_law_rows "_law_rows" = true)
    (hk_law_rows : PySem.W.keepIn K (.ref f__law_rows) = true)
    (ha_law_same : PySem.W.nsIn K mainGlobals "_law_same" = some (some (.ref f__law_same)))
    (hl_law_same : K.lookup f__law_same = some ⟨oc_law_same, od_law_same, .func (PySem.W.fnOf "_law_same" "_law_same" (defArgs (top 138)) (defBody (top 138)) (defScope (top 138)) .none kV_law_same dc_law_same pm_law_same an_law_same cv_law_same ct_law_same), sl_law_same⟩)
    (hc_law_same : PySem.W.codeIn K cv_law_same "_law_same" = true)
    (hk_law_same : PySem.W.keepIn K (.ref f__law_same) = true)
    (ha_law_given : PySem.W.nsIn K mainGlobals "_law_given" = some (some (.ref f__law_given)))
    (hl_law_given : K.lookup f__law_given = some ⟨oc_law_given, od_law_given, .func (PySem.W.fnOf "_law_given" "_law_given" (defArgs (top 137)) (defBody (top 137)) (defScope (top 137)) .none kV_law_given dc_law_given pm_law_given an_law_given cv_law_given ct_law_given), sl_law_given⟩)
    (hc_law_given : PySem.W.codeIn K cv_law_given "_law_given" = true)
    (hk_law_given : PySem.W.keepIn K (.ref f__law_given) = true)
    (halaw : PySem.W.nsIn K mainGlobals "law" = some (some (.ref f_law)))
    (hllaw : K.lookup f_law = some ⟨oclaw, odlaw, .func (PySem.W.fnOf "law" "law" (defArgs (top 141)) (defBody (top 141)) (defScope (top 141)) .none kVlaw dclaw pmlaw anlaw cvlaw ctlaw), sllaw⟩)
    (hclaw : PySem.W.codeIn K cvlaw "law" = true)
    (hklaw : PySem.W.keepIn K (.ref f_law) = true)
    (ha_law_begin : PySem.W.nsIn K mainGlobals "_law_begin" = some (some (.ref f__law_begin)))
    (hl_law_begin : K.lookup f__law_begin = some ⟨oc_law_begin, od_law_begin, .func (PySem.W.fnOf "_law_begin" "_law_begin" (defArgs (top 132)) (defBody (top 132)) (defScope (top 132)) .none kV_law_begin dc_law_begin pm_law_begin an_law_begin cv_law_begin ct_law_begin), sl_law_begin⟩)
    (hc_law_begin : PySem.W.codeIn K cv_law_begin "_law_begin" = true)
    (hk_law_begin : PySem.W.keepIn K (.ref f__law_begin) = true)
    (hcl_law_are_refused : K.lookup c__law_are_refused = some ⟨cw_law_are_refused, cx_law_are_refused, .fields cy_law_are_refused, cz_law_are_refused⟩)
    (hcp_law_are_refused : cy_law_are_refused[11]? = some (.ref p__law_are_refused))
    (hch_law_are_refused : PySem.W.codeHdIn K c__law_are_refused p__law_are_refused = true)
    (hpt_law_are_refused : h.get? p__law_are_refused = some (PySem.W.tabObj #[]))
    (hpk_law_are_refused : K.lookup p__law_are_refused = none)
    : LamX.LawAtS l w K (L2.CX l.prog w) 21 63 "_law_script" mg fa h := by
  have e := hfa.symm.trans (PySem.W.mg_of X G halaw)
  cases e
  have E_BadValue : PySem.EX.ErrTxt l.prog K mg "BadValue" "value" C_BadValue fI_BadValue :=
    { gC := PySem.W.mg_of X G ha_BadValue, cls := ⟨_, _, _, _, _, _, _, _, _, _, _, _, _, _, _, hx_BadValue, hv_BadValue⟩, sa := hsa_BadValue, ga := hga_BadValue, gg := hgg_BadValue, noN := hno_BadValue_value, iC := hi_BadValue, tC := ht_BadValue, kC := hk_BadValue, exC := hex_BadValue, veC := hve_BadValue, tyC := hty_BadValue, hdC := hhd_BadValue, sup := hsu_BadValue, slf := hse_BadValue, opq := hopq, gS := PySem.W.mg_none_of X G hn_super, htop := hhtop, fself := by decide +kernel, fdb := by decide +kernel, ks := rfl, kc := rfl,
      fn := ⟨_, _, _, _, _, _, _, _, _, _, _, _, _, _, _, _, _, _, _, _, _, _, _, _, _, _, _, _, _, _, _, hl_BadValue, hco_BadValue, hlc_BadValue, hvf_BadValue, hff_BadValue, hlx_BadValue, fun _ _ => rfl, fun _ _ => rfl, fun env _ => ⟨_, rfl⟩⟩ }
  let A : Ad := { BadValue := C_BadValue, Fault := C_Fault, Grid := C_Grid, Member := C_Member, NoDivisor := C_NoDivisor, Ratio := C_Ratio, Strand := C_Strand, i_BadValue := fI_BadValue, k_law_refused := c__law_refused, k_law_are_refused := c__law_are_refused, p_law_are_refused := p__law_are_refused }
  have Cl_Fault : Cls K C_Fault := ⟨hpg_Fault, hhd_Fault, hpo_Fault, hsa_Fault⟩
  have Cl_Grid : Cls K C_Grid := ⟨hpg_Grid, hhd_Grid, hpo_Grid, hsa_Grid⟩
  have Cl_Ratio : Cls K C_Ratio := ⟨hpg_Ratio, hhd_Ratio, hpo_Ratio, hsa_Ratio⟩
  have MkGrid_init : Mk K C_Grid f_Grid_init := ⟨hmk_Grid, hfiGrid_init, hisfGrid_init, hk_Grid⟩
  have FDGrid_init : FunD K "__init__" "Grid.__init__" (defArgs (inClass (top 125) 0)) (defBody (inClass (top 125) 0)) (defScope (inClass (top 125) 0)) [.non] [] f_Grid_init _ := ⟨⟨_, _, _, _, _, _, _, _, _, _, rfl, hlGrid_init, hcGrid_init, .inr ⟨by simp, T_Grid_init, _, [.none], tnGrid_init, rfl, hltGrid_init, rfl, (.cons rfl .nil)⟩, .inl rfl⟩, hkGrid_init⟩
  have FRatio_eq := fun_mk (st := (inClass (top 17) 1)) hlRatio_eq hcRatio_eq hkRatio_eq
  have BRatio_eq : Binds K _ ["self", "other"] [] := FRatio_eq.binds (ps := ["self", "other"]) fun _ _ _ _ _ _ us hl => match us, hl with | [_, _], _ => rfl
  have FFault_eq := fun_mk (st := (inClass (top 117) 1)) hlFault_eq hcFault_eq hkFault_eq
  have BFault_eq : Binds K _ ["self", "other"] [] := FFault_eq.binds (ps := ["self", "other"]) fun _ _ _ _ _ _ us hl => match us, hl with | [_, _], _ => rfl
  have FGrid_eq := fun_mk (st := (inClass (top 125) 1)) hlGrid_eq hcGrid_eq hkGrid_eq
  have BGrid_eq : Binds K _ ["self", "other"] [] := FGrid_eq.binds (ps := ["self", "other"]) fun _ _ _ _ _ _ us hl => match us, hl with | [_, _], _ => rfl
  have FFault_init := fun_mk (st := (inClass (top 117) 0)) hlFault_init hcFault_init hkFault_init
  have MkFault_init : Mk K C_Fault f_Fault_init := ⟨hmk_Fault, hfiFault_init, hisfFault_init, hk_Fault⟩
  have FDFault_init : FunD K "__init__" "Fault.__init__" (defArgs (inClass (top 117) 0)) (defBody (inClass (top 117) 0)) (defScope (inClass (top 117) 0)) [] [] f_Fault_init _ := ⟨⟨_, _, _, _, _, _, _, _, _, _, rfl, hlFault_init, hcFault_init, .inl ⟨rfl, rfl⟩, .inl rfl⟩, hkFault_init⟩
  have MkRatio_init : Mk K C_Ratio f_Ratio_init := ⟨hmk_Ratio, hfiRatio_init, hisfRatio_init, hk_Ratio⟩
  have FDRatio_init : FunD K "__init__" "Ratio.__init__" (defArgs (inClass (top 17) 0)) (defBody (inClass (top 17) 0)) (defScope (inClass (top 17) 0)) [(.int 1)] [] f_Ratio_init _ := ⟨⟨_, _, _, _, _, _, _, _, _, _, rfl, hlRatio_init, hcRatio_init, .inr ⟨by simp, T_Ratio_init, _, [.int 1 tkRatio_init_bottom], tnRatio_init, rfl, hltRatio_init, rfl, (.cons ⟨_, rfl⟩ .nil)⟩, .inl rfl⟩, hkRatio_init⟩
  have Fneed_items := fun_mk (st := top 11) hlneed_items hcneed_items hkneed_items
  have Dneed_items : DefT K mg "need_items" (top 11) ["value"] := ⟨f_need_items, _, Fneed_items, PySem.W.mg_of X G haneed_items, hkneed_items, Fneed_items.binds (ps := ["value"]) fun _ _ _ _ _ _ us hl => match us, hl with | [_], _ => rfl⟩
  have Fis_number := fun_mk (st := top 118) hlis_number hcis_number hkis_number
  have Dis_number : DefT K mg "is_number" (top 118) ["thing"] := ⟨f_is_number, _, Fis_number, PySem.W.mg_of X G hais_number, hkis_number, Fis_number.binds (ps := ["thing"]) fun _ _ _ _ _ _ us hl => match us, hl with | [_], _ => rfl⟩
  have Fis_text := fun_mk (st := top 119) hlis_text hcis_text hkis_text
  have Dis_text : DefT K mg "is_text" (top 119) ["thing"] := ⟨f_is_text, _, Fis_text, PySem.W.mg_of X G hais_text, hkis_text, Fis_text.binds (ps := ["thing"]) fun _ _ _ _ _ _ us hl => match us, hl with | [_], _ => rfl⟩
  have Fis_value := fun_mk (st := top 120) hlis_value hcis_value hkis_value
  have Dis_value : DefT K mg "is_value" (top 120) ["thing"] := ⟨f_is_value, _, Fis_value, PySem.W.mg_of X G hais_value, hkis_value, Fis_value.binds (ps := ["thing"]) fun _ _ _ _ _ _ us hl => match us, hl with | [_], _ => rfl⟩
  have Fis_row := fun_mk (st := top 123) hlis_row hcis_row hkis_row
  have Dis_row : DefT K mg "is_row" (top 123) ["thing"] := ⟨f_is_row, _, Fis_row, PySem.W.mg_of X G hais_row, hkis_row, Fis_row.binds (ps := ["thing"]) fun _ _ _ _ _ _ us hl => match us, hl with | [_], _ => rfl⟩
  have Fneed_rows := fun_mk (st := top 124) hlneed_rows hcneed_rows hkneed_rows
  have Dneed_rows : DefT K mg "need_rows" (top 124) ["rows"] := ⟨f_need_rows, _, Fneed_rows, PySem.W.mg_of X G haneed_rows, hkneed_rows, Fneed_rows.binds (ps := ["rows"]) fun _ _ _ _ _ _ us hl => match us, hl with | [_], _ => rfl⟩
  have Fis_integer := fun_mk (st := top 9) hlis_integer hcis_integer hkis_integer
  have Dis_integer : DefT K mg "is_integer" (top 9) ["value"] := ⟨f_is_integer, _, Fis_integer, PySem.W.mg_of X G hais_integer, hkis_integer, Fis_integer.binds (ps := ["value"]) fun _ _ _ _ _ _ us hl => match us, hl with | [_], _ => rfl⟩
  have Fis_corner := fun_mk (st := top 12) hlis_corner hcis_corner hkis_corner
  have Dis_corner : DefT K mg "is_corner" (top 12) ["value"] := ⟨f_is_corner, _, Fis_corner, PySem.W.mg_of X G hais_corner, hkis_corner, Fis_corner.binds (ps := ["value"]) fun _ _ _ _ _ _ us hl => match us, hl with | [_], _ => rfl⟩
  have Fstretch := fun_mk (st := top 127) hlstretch hcstretch hkstretch
  have Dstretch : DefT K mg "stretch" (top 127) ["grids"] := ⟨f_stretch, _, Fstretch, PySem.W.mg_of X G hastretch, hkstretch, Fstretch.binds (ps := ["grids"]) fun _ _ _ _ _ _ us hl => match us, hl with | [_], _ => rfl⟩
  have Fstretched := fun_mk (st := top 129) hlstretched hcstretched hkstretched
  have Dstretched : DefT K mg "stretched" (top 129) ["grids"] := ⟨f_stretched, _, Fstretched, PySem.W.mg_of X G hastretched, hkstretched, Fstretched.binds (ps := ["grids"]) fun _ _ _ _ _ _ us hl => match us, hl with | [_], _ => rfl⟩
  have F_law_draw := fun_mk (st := top 133) hl_law_draw hc_law_draw hk_law_draw
  have D_law_draw : DefT K mg "_law_draw" (top 133) ["_law_pen", "_law_span"] := ⟨f__law_draw, _, F_law_draw, PySem.W.mg_of X G ha_law_draw, hk_law_draw, F_law_draw.binds (ps := ["_law_pen", "_law_span"]) fun _ _ _ _ _ _ us hl => match us, hl with | [_, _], _ => rfl⟩
  have F_law_pick := fun_mk (st := top 134) hl_law_pick hc_law_pick hk_law_pick
  have D_law_pick : DefT K mg "_law_pick" (top 134) ["_law_pen", "_law_some"] := ⟨f__law_pick, _, F_law_pick, PySem.W.mg_of X G ha_law_pick, hk_law_pick, F_law_pick.binds (ps := ["_law_pen", "_law_some"]) fun _ _ _ _ _ _ us hl => match us, hl with | [_, _], _ => rfl⟩
  have D_law_refused : DefC K mg "_law_refused" (top 139) ["_law_call", "_law_value_here"] c__law_refused := ⟨f__law_refused, _, _, _, _, _, _, _, _, _, hl_law_refused, hc_law_refused, PySem.W.mg_of X G ha_law_refused, hk_law_refused, .all fun us hl => match us, hl with | [_, _], _ => rfl⟩
  have Fpart_within := fun_mk (st := top 128) hlpart_within hcpart_within hkpart_within
  have Dpart_within : DefT K mg "part_within" (top 128) ["grid", "row", "column"] := ⟨f_part_within, _, Fpart_within, PySem.W.mg_of X G hapart_within, hkpart_within, Fpart_within.binds (ps := ["grid", "row", "column"]) fun _ _ _ _ _ _ us hl => match us, hl with | [_, _, _], _ => rfl⟩
  have Fpart_at := fun_mk (st := top 130) hlpart_at hcpart_at hkpart_at
  have Dpart_at : DefT K mg "part_at" (top 130) ["grid", "row", "column"] := ⟨f_part_at, _, Fpart_at, PySem.W.mg_of X G hapart_at, hkpart_at, Fpart_at.binds (ps := ["grid", "row", "column"]) fun _ _ _ _ _ _ us hl => match us, hl with | [_, _, _], _ => rfl⟩
  have D_law_are_refused : DefC K mg "_law_are_refused" (top 140) ["_law_pen", "_law_grid"] c__law_are_refused := ⟨f__law_are_refused, _, _, _, _, _, _, _, _, _, hl_law_are_refused, hc_law_are_refused, PySem.W.mg_of X G ha_law_are_refused, hk_law_are_refused, .all fun us hl => match us, hl with | [_, _], _ => rfl⟩
  have Fneed_integer := fun_mk (st := top 10) hlneed_integer hcneed_integer hkneed_integer
  have Dneed_integer : DefT K mg "need_integer" (top 10) ["value"] := ⟨f_need_integer, _, Fneed_integer, PySem.W.mg_of X G haneed_integer, hkneed_integer, Fneed_integer.binds (ps := ["value"]) fun _ _ _ _ _ _ us hl => match us, hl with | [_], _ => rfl⟩
  have Fcommon_whole := fun_mk (st := top 14) hlcommon_whole hccommon_whole hkcommon_whole
  have Dcommon_whole : DefT K mg "common_whole" (top 14) ["one", "other"] := ⟨f_common_whole, _, Fcommon_whole, PySem.W.mg_of X G hacommon_whole, hkcommon_whole, Fcommon_whole.binds (ps := ["one", "other"]) fun _ _ _ _ _ _ us hl => match us, hl with | [_, _], _ => rfl⟩
  have F_law_value := fun_mk (st := top 135) hl_law_value hc_law_value hk_law_value
  have D_law_value : DefT K mg "_law_value" (top 135) ["_law_pen"] := ⟨f__law_value, _, F_law_value, PySem.W.mg_of X G ha_law_value, hk_law_value, F_law_value.binds (ps := ["_law_pen"]) fun _ _ _ _ _ _ us hl => match us, hl with | [_], _ => rfl⟩
  have F_law_rows := fun_mk (st := top 136) hl_law_rows hc_law_rows hk_law_rows
  have D_law_rows : DefT K mg "_law_rows" (top 136) ["_law_pen"] := ⟨f__law_rows, _, F_law_rows, PySem.W.mg_of X G ha_law_rows, hk_law_rows, F_law_rows.binds (ps := ["_law_pen"]) fun _ _ _ _ _ _ us hl => match us, hl with | [_], _ => rfl⟩
  have F_law_same := fun_mk (st := top 138) hl_law_same hc_law_same hk_law_same
  have D_law_same : DefT K mg "_law_same" (top 138) ["_law_one", "_law_other"] := ⟨f__law_same, _, F_law_same, PySem.W.mg_of X G ha_law_same, hk_law_same, F_law_same.binds (ps := ["_law_one", "_law_other"]) fun _ _ _ _ _ _ us hl => match us, hl with | [_, _], _ => rfl⟩
  have F_law_given := fun_mk (st := top 137) hl_law_given hc_law_given hk_law_given
  have D_law_given : DefT K mg "_law_given" (top 137) ["_law_rows_here", "_law_row", "_law_column"] := ⟨f__law_given, _, F_law_given, PySem.W.mg_of X G ha_law_given, hk_law_given, F_law_given.binds (ps := ["_law_rows_here", "_law_row", "_law_column"]) fun _ _ _ _ _ _ us hl => match us, hl with | [_, _, _], _ => rfl⟩
  have Flaw := fun_mk (st := top 141) hllaw hclaw hklaw
  have F_law_begin := fun_mk (st := top 132) hl_law_begin hc_law_begin hk_law_begin
  have B_law_begin : Binds K _ ["_law_script"] [] := F_law_begin.binds (ps := ["_law_script"]) fun _ _ _ _ _ _ us hl => match us, hl with | [_], _ => rfl
  have T : Txt l.prog K mg A :=
    { n_abs := PySem.W.mg_none_of X G hn_abs,
      n_all := PySem.W.mg_none_of X G hn_all,
      n_bool := PySem.W.mg_none_of X G hn_bool,
      n_int := PySem.W.mg_none_of X G hn_int,
      n_isinstance := PySem.W.mg_none_of X G hn_isinstance,
      n_len := PySem.W.mg_none_of X G hn_len,
      n_list := PySem.W.mg_none_of X G hn_list,
      n_max := PySem.W.mg_none_of X G hn_max,
      n_range := PySem.W.mg_none_of X G hn_range,
      n_str := PySem.W.mg_none_of X G hn_str,
      n_tuple := PySem.W.mg_none_of X G hn_tuple,
      g_MOST_SIGNS := ⟨_, PySem.W.mg_of X G hg_MOST_SIGNS, ⟨tk_MOST_SIGNS, by rw [he_MOST_SIGNS]⟩⟩,
      g_MOST_VALUES := ⟨_, PySem.W.mg_of X G hg_MOST_VALUES, ⟨tk_MOST_VALUES, by rw [he_MOST_VALUES]⟩⟩,
      g_FAULT_KINDS := ⟨_, PySem.W.mg_of X G hg_FAULT_KINDS, ⟨_, _, _, hlt_FAULT_KINDS, rfl, rfl, (show 8 ≤ sizeLine by decide), (.cons ⟨tk0_FAULT_KINDS, by rw [he0_FAULT_KINDS]⟩ (.cons ⟨tk1_FAULT_KINDS, by rw [he1_FAULT_KINDS]⟩ (.cons ⟨tk2_FAULT_KINDS, by rw [he2_FAULT_KINDS]⟩ (.cons ⟨tk3_FAULT_KINDS, by rw [he3_FAULT_KINDS]⟩ (.cons ⟨tk4_FAULT_KINDS, by rw [he4_FAULT_KINDS]⟩ (.cons ⟨tk5_FAULT_KINDS, by rw [he5_FAULT_KINDS]⟩ (.cons ⟨tk6_FAULT_KINDS, by rw [he6_FAULT_KINDS]⟩ (.cons ⟨tk7_FAULT_KINDS, by rw [he7_FAULT_KINDS]⟩ .nil))))))))⟩⟩,
      c_BadValue := PySem.W.mg_of X G ha_BadValue,
      c_Fault := PySem.W.mg_of X G ha_Fault,
      c_Grid := PySem.W.mg_of X G ha_Grid,
      c_Member := PySem.W.mg_of X G ha_Member,
      c_NoDivisor := PySem.W.mg_of X G ha_NoDivisor,
      c_Ratio := PySem.W.mg_of X G ha_Ratio,
      c_Strand := PySem.W.mg_of X G ha_Strand,
      e_BadValue := E_BadValue,
      z_NoDivisor := ⟨PySem.W.mg_of X G ha_NoDivisor, ⟨_, _, _, _, _, _, _, _, _, _, _, _, _, _, _, hx_NoDivisor, hv_NoDivisor⟩, hi_NoDivisor, hk_NoDivisor, hex_NoDivisor, hty_NoDivisor⟩,
      fl_bottom := fun C hC => by
        simp only [List.mem_cons, List.not_mem_nil, or_false] at hC
        rcases hC with rfl
        · exact ⟨Cl_Ratio, hno_Ratio_bottom⟩,
      fl_corner := fun C hC => by
        simp only [List.mem_cons, List.not_mem_nil, or_false] at hC
        rcases hC with rfl
        · exact ⟨Cl_Grid, hno_Grid_corner⟩,
      fl_height := fun C hC => by
        simp only [List.mem_cons, List.not_mem_nil, or_false] at hC
        rcases hC with rfl
        · exact ⟨Cl_Grid, hno_Grid_height⟩,
      fl_kind := fun C hC => by
        simp only [List.mem_cons, List.not_mem_nil, or_false] at hC
        rcases hC with rfl
        · exact ⟨Cl_Fault, hno_Fault_kind⟩,
      fl_rows := fun C hC => by
        simp only [List.mem_cons, List.not_mem_nil, or_false] at hC
        rcases hC with rfl
        · exact ⟨Cl_Grid, hno_Grid_rows⟩,
      fl_top := fun C hC => by
        simp only [List.mem_cons, List.not_mem_nil, or_false] at hC
        rcases hC with rfl
        · exact ⟨Cl_Ratio, hno_Ratio_top⟩,
      fl_width := fun C hC => by
        simp only [List.mem_cons, List.not_mem_nil, or_false] at hC
        rcases hC with rfl
        · exact ⟨Cl_Grid, hno_Grid_width⟩,
      xf_BadValue := ⟨hga_BadValue, hgg_BadValue, hex_BadValue, hhd_BadValue⟩,
      no_BadValue_value := hno_BadValue_value,
      m_BB := PySem.W.exm_ref hex_BadValue hhd_BadValue hty_BadValue hs_BadValue_BadValue,
      k_Ratio_Ratio := hkt_Ratio_Ratio,
      k_Fault_Fault := hkt_Fault_Fault,
      k_Grid_Grid := hkt_Grid_Grid,
      k_Ratio_bool := hkt_Ratio_bool,
      k_Ratio_Fault := hkt_Ratio_Fault,
      k_Fault_bool := hkt_Fault_bool,
      k_str_Ratio := hkt_str_Ratio,
      k_str_Strand := hkt_str_Strand,
      k_str_Member := hkt_str_Member,
      k_str_Fault := hkt_str_Fault,
      k_Grid_list := hkt_Grid_list,
      k_Grid_tuple := hkt_Grid_tuple,
      k_NoneType_Grid := hkt_NoneType_Grid,
      k_bool_Grid := hkt_bool_Grid,
      k_int_Grid := hkt_int_Grid,
      k_str_Grid := hkt_str_Grid,
      k_list_Grid := hkt_list_Grid,
      i_Ratio := ⟨Cl_Ratio, hha_Ratio, hhn, hht, hhm_Ratio⟩,
      i_Fault := ⟨Cl_Fault, hha_Fault, hhn, hht, hhm_Fault⟩,
      i_Grid := ⟨Cl_Grid, hha_Grid, hhn, hht, hhm_Grid⟩,
      d_law_refused := D_law_refused }
  refine ⟨PySem.W.fnOf "law" "law" (defArgs (top 141)) (defBody (top 141)) (defScope (top 141)) .none kVlaw dclaw pmlaw anlaw cvlaw ctlaw, [(c__law_are_refused, p__law_are_refused)], spLaw K [(p__law_are_refused, (("_law_are_refused" : Str) ++ ".<locals>." ++ "<lambda>"))], fun p hp => ?_, fun p hp => ?_, fun p hp => ?_, fun s u => .of_eq rfl, fun H a ns hl _ hH hS => ⟨a, ns, rfl, hl, fun p hp => ?_, hS, fun _ => rfl⟩, fun base KB GB hTB => ?_⟩
  · simp only [List.mem_cons, List.not_mem_nil, or_false] at hp
    rcases hp with rfl
    · exact hpt_law_are_refused
  · simp only [List.mem_cons, List.not_mem_nil, or_false] at hp
    rcases hp with rfl
    · exact hpk_law_are_refused
  · simp only [List.mem_cons, List.not_mem_nil, or_false] at hp
    rcases hp with rfl
    · exact PySem.W.codeHd_of_K X hch_law_are_refused
  · simp only [List.mem_cons, List.not_mem_nil, or_false] at hp
    rcases hp with rfl
    · exact hH (c__law_are_refused, p__law_are_refused) (by simp)
  have K_need_items : ∀ (pn : Addr) (cs : List Int), CalD l.prog w K mg base (MM K [(p__law_are_refused, (("_law_are_refused" : Str) ++ ".<locals>." ++ "<lambda>"))] pn cs) 2 "need_items" ["value"] (s_need_items A) := fun pn cs => cal_need_items T Dneed_items 
  have K_is_number : ∀ (pn : Addr) (cs : List Int), CalD l.prog w K mg base (MM K [(p__law_are_refused, (("_law_are_refused" : Str) ++ ".<locals>." ++ "<lambda>"))] pn cs) 2 "is_number" ["thing"] (s_is_number A) := fun pn cs => cal_is_number T Dis_number 
  have K_is_text : ∀ (pn : Addr) (cs : List Int), CalD l.prog w K mg base (MM K [(p__law_are_refused, (("_law_are_refused" : Str) ++ ".<locals>." ++ "<lambda>"))] pn cs) 2 "is_text" ["thing"] (s_is_text A) := fun pn cs => cal_is_text T Dis_text 
  have K_is_value : ∀ (pn : Addr) (cs : List Int), CalD l.prog w K mg base (MM K [(p__law_are_refused, (("_law_are_refused" : Str) ++ ".<locals>." ++ "<lambda>"))] pn cs) 3 "is_value" ["thing"] (s_is_value A) := fun pn cs => cal_is_value T Dis_value (K_is_number pn cs) (K_is_text pn cs)
  have K_is_row : ∀ (pn : Addr) (cs : List Int), CalD l.prog w K mg base (MM K [(p__law_are_refused, (("_law_are_refused" : Str) ++ ".<locals>." ++ "<lambda>"))] pn cs) 4 "is_row" ["thing"] (s_is_row A) := fun pn cs => cal_is_row T Dis_row (K_is_value pn cs)
  have K_need_rows : ∀ (pn : Addr) (cs : List Int), CalD l.prog w K mg base (MM K [(p__law_are_refused, (("_law_are_refused" : Str) ++ ".<locals>." ++ "<lambda>"))] pn cs) 5 "need_rows" ["rows"] (s_need_rows A) := fun pn cs => cal_need_rows T Dneed_rows (K_is_row pn cs) (K_need_items pn cs)
  have K_is_integer : ∀ (pn : Addr) (cs : List Int), CalD l.prog w K mg base (MM K [(p__law_are_refused, (("_law_are_refused" : Str) ++ ".<locals>." ++ "<lambda>"))] pn cs) 2 "is_integer" ["value"] (s_is_integer A) := fun pn cs => cal_is_integer T Dis_integer 
  have K_is_corner : ∀ (pn : Addr) (cs : List Int), CalD l.prog w K mg base (MM K [(p__law_are_refused, (("_law_are_refused" : Str) ++ ".<locals>." ++ "<lambda>"))] pn cs) 3 "is_corner" ["value"] (s_is_corner A) := fun pn cs => cal_is_corner T Dis_corner (K_is_integer pn cs)
  have K_Grid_new3 : ∀ (pn : Addr) (cs : List Int), NewD l.prog w K mg base (MM K [(p__law_are_refused, (("_law_are_refused" : Str) ++ ".<locals>." ++ "<lambda>"))] pn cs) 6 "Grid" 1 [] g_Grid_new3 (s_Grid A) := fun pn cs => cal_Grid_new3 T FDGrid_init MkGrid_init (K_is_corner pn cs) (K_need_rows pn cs)
  have K_stretch : ∀ (pn : Addr) (cs : List Int), CalD l.prog w K mg base (MM K [(p__law_are_refused, (("_law_are_refused" : Str) ++ ".<locals>." ++ "<lambda>"))] pn cs) 2 "stretch" ["grids"] (s_stretch A) := fun pn cs => cal_stretch T Dstretch 
  have K_stretched : ∀ (pn : Addr) (cs : List Int), CalD l.prog w K mg base (MM K [(p__law_are_refused, (("_law_are_refused" : Str) ++ ".<locals>." ++ "<lambda>"))] pn cs) 3 "stretched" ["grids"] (s_stretched A) := fun pn cs => cal_stretched T Dstretched (K_need_items pn cs) (K_stretch pn cs)
  have K__law_draw : ∀ (pn : Addr) (cs : List Int), CalD l.prog w K mg base (MM K [(p__law_are_refused, (("_law_are_refused" : Str) ++ ".<locals>." ++ "<lambda>"))] pn cs) 2 "_law_draw" ["_law_pen", "_law_span"] (s__law_draw A) := fun pn cs => cal__law_draw T D_law_draw 
  have K__law_pick : ∀ (pn : Addr) (cs : List Int), CalD l.prog w K mg base (MM K [(p__law_are_refused, (("_law_are_refused" : Str) ++ ".<locals>." ++ "<lambda>"))] pn cs) 3 "_law_pick" ["_law_pen", "_law_some"] (s__law_pick A) := fun pn cs => cal__law_pick T D_law_pick (K__law_draw pn cs)
  have K_Ratio_eq : ∀ (pn : Addr) (cs : List Int), EqD l.prog w K mg base (MM K [(p__law_are_refused, (("_law_are_refused" : Str) ++ ".<locals>." ++ "<lambda>"))] pn cs) 2 A.Ratio (s_Ratio_eq A) := fun pn cs => cal_Ratio_eq T FRatio_eq BRatio_eq ⟨hfiRatio_eq, hisfRatio_eq, hneRatio_eq, hobRatio_eq⟩ 
  have K_Ratio_eqN : ∀ (pn : Addr) (cs : List Int), EqDN l.prog w K mg base (MM K [(p__law_are_refused, (("_law_are_refused" : Str) ++ ".<locals>." ++ "<lambda>"))] pn cs) 2 A.Ratio (s_Ratio_eq A) := fun pn cs => cal_Ratio_eqN T FRatio_eq BRatio_eq ⟨hfiRatio_eq, hisfRatio_eq, hneRatio_eq, hobRatio_eq⟩ 
  have K_Fault_eq : ∀ (pn : Addr) (cs : List Int), EqD l.prog w K mg base (MM K [(p__law_are_refused, (("_law_are_refused" : Str) ++ ".<locals>." ++ "<lambda>"))] pn cs) 2 A.Fault (s_Fault_eq A) := fun pn cs => cal_Fault_eq T FFault_eq BFault_eq ⟨hfiFault_eq, hisfFault_eq, hneFault_eq, hobFault_eq⟩ 
  have K_Fault_eqN : ∀ (pn : Addr) (cs : List Int), EqDN l.prog w K mg base (MM K [(p__law_are_refused, (("_law_are_refused" : Str) ++ ".<locals>." ++ "<lambda>"))] pn cs) 2 A.Fault (s_Fault_eq A) := fun pn cs => cal_Fault_eqN T FFault_eq BFault_eq ⟨hfiFault_eq, hisfFault_eq, hneFault_eq, hobFault_eq⟩ 
  have K_Grid_eq : ∀ (pn : Addr) (cs : List Int), EqD l.prog w K mg base (MM K [(p__law_are_refused, (("_law_are_refused" : Str) ++ ".<locals>." ++ "<lambda>"))] pn cs) 9 A.Grid (s_Grid_eq A) := fun pn cs => cal_Grid_eq T FGrid_eq BGrid_eq ⟨hfiGrid_eq, hisfGrid_eq, hneGrid_eq, hobGrid_eq⟩ (K_Fault_eq pn cs) (K_Ratio_eq pn cs)
  have K_Grid_eqN : ∀ (pn : Addr) (cs : List Int), EqDN l.prog w K mg base (MM K [(p__law_are_refused, (("_law_are_refused" : Str) ++ ".<locals>." ++ "<lambda>"))] pn cs) 9 A.Grid (s_Grid_eq A) := fun pn cs => cal_Grid_eqN T FGrid_eq BGrid_eq ⟨hfiGrid_eq, hisfGrid_eq, hneGrid_eq, hobGrid_eq⟩ (K_Fault_eqN pn cs) (K_Ratio_eqN pn cs)
  have K_Fault_new0 : ∀ (pn : Addr) (cs : List Int), NewD l.prog w K mg base (MM K [(p__law_are_refused, (("_law_are_refused" : Str) ++ ".<locals>." ++ "<lambda>"))] pn cs) 2 "Fault" 1 [] g_Fault_new0 (s_Fault A) := fun pn cs => cal_Fault_new0 T FFault_init FDFault_init MkFault_init 
  have K_part_within : ∀ (pn : Addr) (cs : List Int), CalD l.prog w K mg base (MM K [(p__law_are_refused, (("_law_are_refused" : Str) ++ ".<locals>." ++ "<lambda>"))] pn cs) 4 "part_within" ["grid", "row", "column"] (s_part_within A) := fun pn cs => cal_part_within T Dpart_within (K_Fault_new0 pn cs)
  have K_part_at : ∀ (pn : Addr) (cs : List Int), CalD l.prog w K mg base (MM K [(p__law_are_refused, (("_law_are_refused" : Str) ++ ".<locals>." ++ "<lambda>"))] pn cs) 5 "part_at" ["grid", "row", "column"] (s_part_at A) := fun pn cs => cal_part_at T Dpart_at (K_is_integer pn cs) (K_part_within pn cs)
  have TU_law_are_refused : ∀ p ∈ ([(p__law_are_refused, (("_law_are_refused" : Str) ++ ".<locals>." ++ "<lambda>"))] : List (Addr × Str)), p.1 = p__law_are_refused → p.2 = (("_law_are_refused" : Str) ++ ".<locals>." ++ "<lambda>") := fun p hp e => by
      simp only [List.mem_cons, List.not_mem_nil, or_false] at hp
      rcases hp with rfl
      · rfl
  have K__law_are_refused : ∀ (pn : Addr) (cs : List Int), CalD l.prog w K mg base (MM K [(p__law_are_refused, (("_law_are_refused" : Str) ++ ".<locals>." ++ "<lambda>"))] pn cs) 20 "_law_are_refused" ["_law_pen", "_law_grid"] (s__law_are_refused A) := fun pn cs => cal__law_are_refused T D_law_are_refused (K_Grid_eqN pn cs) (K__law_pick pn cs) (K_part_at pn cs) (K_stretched pn cs) (hTB (c__law_are_refused, p__law_are_refused) List.mem_cons_self) List.mem_cons_self TU_law_are_refused
  have K_need_integer : ∀ (pn : Addr) (cs : List Int), CalD l.prog w K mg base (MM K [(p__law_are_refused, (("_law_are_refused" : Str) ++ ".<locals>." ++ "<lambda>"))] pn cs) 3 "need_integer" ["value"] (s_need_integer A) := fun pn cs => cal_need_integer T Dneed_integer (K_is_integer pn cs)
  have K_common_whole : ∀ (pn : Addr) (cs : List Int), CalD l.prog w K mg base (MM K [(p__law_are_refused, (("_law_are_refused" : Str) ++ ".<locals>." ++ "<lambda>"))] pn cs) 2 "common_whole" ["one", "other"] (s_common_whole A) := fun pn cs => cal_common_whole T Dcommon_whole 
  have K_Ratio_new1 : ∀ (pn : Addr) (cs : List Int), NewD l.prog w K mg base (MM K [(p__law_are_refused, (("_law_are_refused" : Str) ++ ".<locals>." ++ "<lambda>"))] pn cs) 4 "Ratio" 2 [] g_Ratio_new1 (s_Ratio A) := fun pn cs => cal_Ratio_new1 T FDRatio_init MkRatio_init (K_common_whole pn cs) (K_need_integer pn cs)
  have K_Ratio_new2 : ∀ (pn : Addr) (cs : List Int), NewD l.prog w K mg base (MM K [(p__law_are_refused, (("_law_are_refused" : Str) ++ ".<locals>." ++ "<lambda>"))] pn cs) 4 "Ratio" 1 [] g_Ratio_new2 (s_Ratio A) := fun pn cs => cal_Ratio_new2 T FDRatio_init MkRatio_init (K_common_whole pn cs) (K_need_integer pn cs)
  have K__law_value : ∀ (pn : Addr) (cs : List Int), CalD l.prog w K mg base (MM K [(p__law_are_refused, (("_law_are_refused" : Str) ++ ".<locals>." ++ "<lambda>"))] pn cs) 6 "_law_value" ["_law_pen"] (s__law_value A) := fun pn cs => cal__law_value T D_law_value (K_Fault_new0 pn cs) (K_Ratio_new1 pn cs) (K__law_draw pn cs) (K__law_pick pn cs)
  have K__law_rows : ∀ (pn : Addr) (cs : List Int), CalD l.prog w K mg base (MM K [(p__law_are_refused, (("_law_are_refused" : Str) ++ ".<locals>." ++ "<lambda>"))] pn cs) 7 "_law_rows" ["_law_pen"] (s__law_rows A) := fun pn cs => cal__law_rows T D_law_rows (K_Ratio_new2 pn cs) (K__law_draw pn cs) (K__law_pick pn cs) (K__law_value pn cs)
  have K__law_same : ∀ (pn : Addr) (cs : List Int), CalD l.prog w K mg base (MM K [(p__law_are_refused, (("_law_are_refused" : Str) ++ ".<locals>." ++ "<lambda>"))] pn cs) 9 "_law_same" ["_law_one", "_law_other"] (s__law_same A) := fun pn cs => cal__law_same T D_law_same (K_Fault_eq pn cs) (K_Ratio_eq pn cs)
  have K__law_given : ∀ (pn : Addr) (cs : List Int), CalD l.prog w K mg base (MM K [(p__law_are_refused, (("_law_are_refused" : Str) ++ ".<locals>." ++ "<lambda>"))] pn cs) 4 "_law_given" ["_law_rows_here", "_law_row", "_law_column"] (s__law_given A) := fun pn cs => cal__law_given T D_law_given (K_Fault_new0 pn cs)
  exact ok_law T Flaw F_law_begin B_law_begin (PySem.W.mg_of X G ha_law_begin) hk_law_begin (PySem.W.mg_none_of X G hn_list) K_Grid_eq K_Grid_new3 K__law_are_refused K__law_draw K__law_given K__law_pick K__law_rows K__law_same K_part_at K_stretched
end K43

set_option Elab.async false
set_option linter.all false
open PySem PySem.W PyProof.Rows
set_option maxRecDepth 100000 in
set_option maxHeartbeats 0 in
theorem PySem.Challenge.cw_allinputs_k43_places_of_grids_holds : PySem.Challenge.rw_allinputs_k43_places_of_grids.Holds := by
  w_on; o_law
  refine HeadT.head_km (r := OpenLaw.row PySem.Challenge.rw_allinputs_k43_places_of_grids) (H := kmHook K43.mk.heap_1 K43.asL K43.asL_eq [1554]) rfl 141 20000 K43.loose (by kernel_rfl) (fun s => by kernel_rfl) K43.run (by kernel_rfl) (by kernel_rfl) (by kernel_rfl) (by rfl) (by first | assumption | decide +kernel) (by decide +kernel) ⟨rfl, rfl, rfl, rfl, rfl, by decide +kernel⟩ ?hw ?hc
  case hw => w_witness2
  k_fill
  refine LamX.walk_ofTs (l := PySem.Challenge.rw_allinputs_k43_places_of_grids) (n := 63) (k := 21) (CX := fun w => L2.CX PySem.Challenge.rw_allinputs_k43_places_of_grids.prog w) (x := "_law_script") rfl (by decide) (by kernel_rfl) ⟨rfl, by decide, by decide⟩ (fun w h Y => PySem.W.km_in_of Y) ?F (fun w H s e s' ⟨_, _, _, _, _, _, _, _, _, _, _, _, z⟩ => z)
  case F =>
    intro w mg fa h Y KX G hmg0
    have hmg : mg ("law" : PySem.Str) = some (.ref fa) := by
      have e : (HandSHeadRun.topDef (OpenLaw.row PySem.Challenge.rw_allinputs_k43_places_of_grids).prog 141).name = ("law" : PySem.Str) := by kernel_rfl
      rw [← e]
      exact hmg0
    as_aux_lemma =>
      refine' K43.fin _ KX G hmg ?qn_abs ?qn_all ?qn_bool ?qn_int ?qn_isinstance ?qn_len ?qn_list ?qn_max ?qn_range ?qn_str ?qn_tuple ?qn_super ?qg_MOST_SIGNS ?qe_MOST_SIGNS ?qg_MOST_VALUES ?qe_MOST_VALUES ?qg_FAULT_KINDS ?qlt_FAULT_KINDS ?qe0_FAULT_KINDS ?qe1_FAULT_KINDS ?qe2_FAULT_KINDS ?qe3_FAULT_KINDS ?qe4_FAULT_KINDS ?qe5_FAULT_KINDS ?qe6_FAULT_KINDS ?qe7_FAULT_KINDS ?qa_BadValue ?qa_Fault ?qa_Grid ?qa_Member ?qa_NoDivisor ?qa_Ratio ?qa_Strand ?qex_BadValue ?qhd_BadValue ?qty_BadValue ?qga_BadValue ?qgg_BadValue ?qno_BadValue_value ?qex_NoDivisor ?qhd_NoDivisor ?qty_NoDivisor ?qopq ?qhtop ?qx_BadValue ?qv_BadValue ?qsa_BadValue ?qi_BadValue ?qt_BadValue ?ql_BadValue ?qco_BadValue ?qlc_BadValue ?qvf_BadValue ?qff_BadValue ?qlx_BadValue ?qk_BadValue ?qve_BadValue ?qsu_BadValue ?qse_BadValue ?qx_NoDivisor ?qv_NoDivisor ?qi_NoDivisor ?qk_NoDivisor ?qs_BadValue_BadValue ?qpg_Fault ?qhd_Fault ?qpo_Fault ?qsa_Fault ?qno_Fault_kind ?qha_Fault ?qhm_Fault ?qmk_Fault ?qk_Fault ?qpg_Grid ?qhd_Grid ?qpo_Grid ?qsa_Grid ?qno_Grid_corner ?qno_Grid_height ?qno_Grid_rows ?qno_Grid_width ?qha_Grid ?qhm_Grid ?qmk_Grid ?qk_Grid ?qpg_Ratio ?qhd_Ratio ?qpo_Ratio ?qsa_Ratio ?qno_Ratio_bottom ?qno_Ratio_top ?qha_Ratio ?qhm_Ratio ?qmk_Ratio ?qk_Ratio ?qhn ?qht ?qkt_Ratio_Ratio ?qkt_Fault_Fault ?qkt_Grid_Grid ?qkt_Ratio_bool ?qkt_Ratio_Fault ?qkt_Fault_bool ?qkt_str_Ratio ?qkt_str_Strand ?qkt_str_Member ?qkt_str_Fault ?qkt_Grid_list ?qkt_Grid_tuple ?qkt_NoneType_Grid ?qkt_bool_Grid ?qkt_int_Grid ?qkt_str_Grid ?qkt_list_Grid ?qfiGrid_init ?qlGrid_init ?qcGrid_init ?qkGrid_init ?qisfGrid_init ?qltGrid_init ?qfiRatio_eq ?qlRatio_eq ?qcRatio_eq ?qkRatio_eq ?qisfRatio_eq ?qneRatio_eq ?qobRatio_eq ?qfiFault_eq ?qlFault_eq ?qcFault_eq ?qkFault_eq ?qisfFault_eq ?qneFault_eq ?qobFault_eq ?qfiGrid_eq ?qlGrid_eq ?qcGrid_eq ?qkGrid_eq ?qisfGrid_eq ?qneGrid_eq ?qobGrid_eq ?qfiFault_init ?qlFault_init ?qcFault_init ?qkFault_init ?qisfFault_init ?qfiRatio_init ?qlRatio_init ?qcRatio_init ?qkRatio_init ?qisfRatio_init ?qltRatio_init ?qaneed_items ?qlneed_items ?qcneed_items ?qkneed_items ?qais_number ?qlis_number ?qcis_number ?qkis_number ?qais_text ?qlis_text ?qcis_text ?qkis_text ?qais_value ?qlis_value ?qcis_value ?qkis_value ?qais_row ?qlis_row ?qcis_row ?qkis_row ?qaneed_rows ?qlneed_rows ?qcneed_rows ?qkneed_rows ?qais_integer ?qlis_integer ?qcis_integer ?qkis_integer ?qais_corner ?qlis_corner ?qcis_corner ?qkis_corner ?qastretch ?qlstretch ?qcstretch ?qkstretch ?qastretched ?qlstretched ?qcstretched ?qkstretched ?qa_law_draw ?ql_law_draw ?qc_law_draw ?qk_law_draw ?qa_law_pick ?ql_law_pick ?qc_law_pick ?qk_law_pick ?qa_law_refused ?ql_law_refused ?qc_law_refused ?qk_law_refused ?qapart_within ?qlpart_within ?qcpart_within ?qkpart_within ?qapart_at ?qlpart_at ?qcpart_at ?qkpart_at ?qa_law_are_refused ?ql_law_are_refused ?qc_law_are_refused ?qk_law_are_refused ?qaneed_integer ?qlneed_integer ?qcneed_integer ?qkneed_integer ?qacommon_whole ?qlcommon_whole ?qccommon_whole ?qkcommon_whole ?qa_law_value ?ql_law_value ?qc_law_value ?qk_law_value ?qa_law_rows ?ql_law_rows ?qc_law_rows ?qk_law_rows ?qa_law_same ?ql_law_same ?qc_law_same ?qk_law_same ?qa_law_given ?ql_law_given ?qc_law_given ?qk_law_given ?qalaw ?qllaw ?qclaw ?qklaw ?qa_law_begin ?ql_law_begin ?qc_law_begin ?qk_law_begin ?qcl_law_are_refused ?qcp_law_are_refused ?qch_law_are_refused ?qpt_law_are_refused ?qpk_law_are_refused
      (case qn_abs => k_is)
      (case qn_all => k_is)
      (case qn_bool => k_is)
      (case qn_int => k_is)
      (case qn_isinstance => k_is)
      (case qn_len => k_is)
      (case qn_list => k_is)
      (case qn_max => k_is)
      (case qn_range => k_is)
      (case qn_str => k_is)
      (case qn_tuple => k_is)
      (case qn_super => k_is)
      (case qg_MOST_SIGNS => k_is)
      (case qe_MOST_SIGNS => rfl)
      (case qg_MOST_VALUES => k_is)
      (case qe_MOST_VALUES => rfl)
      (case qg_FAULT_KINDS => k_is)
      (case qlt_FAULT_KINDS => k_is)
      (case qe0_FAULT_KINDS => decide +kernel)
      (case qe1_FAULT_KINDS => decide +kernel)
      (case qe2_FAULT_KINDS => decide +kernel)
      (case qe3_FAULT_KINDS => decide +kernel)
      (case qe4_FAULT_KINDS => decide +kernel)
      (case qe5_FAULT_KINDS => decide +kernel)
      (case qe6_FAULT_KINDS => decide +kernel)
      (case qe7_FAULT_KINDS => decide +kernel)
      (case qa_BadValue => k_is)
      (case qa_Fault => k_is)
      (case qa_Grid => k_is)
      (case qa_Member => k_is)
      (case qa_NoDivisor => k_is)
      (case qa_Ratio => k_is)
      (case qa_Strand => k_is)
      (case qex_BadValue => k_is)
      (case qhd_BadValue => k_is)
      (case qty_BadValue => k_is)
      (case qga_BadValue => k_is)
      (case qgg_BadValue => k_is)
      (case qno_BadValue_value => k_is)
      (case qex_NoDivisor => k_is)
      (case qhd_NoDivisor => k_is)
      (case qty_NoDivisor => k_is)
      (case qopq => k_is)
      (case qhtop => decide +kernel)
      (case qx_BadValue => k_is)
      (case qv_BadValue => decide +kernel)
      (case qsa_BadValue => k_is)
      (case qi_BadValue => k_is)
      (case qt_BadValue => k_is)
      (case ql_BadValue => k_is)
      (case qco_BadValue => k_is)
      (case qlc_BadValue => k_is)
      (case qvf_BadValue => rfl)
      (case qff_BadValue => decide +kernel)
      (case qlx_BadValue => k_is)
      (case qk_BadValue => k_is)
      (case qve_BadValue => k_is)
      (case qsu_BadValue => first | k_is | rfl | kernel_rfl)
      (case qse_BadValue => k_is)
      (case qx_NoDivisor => k_is)
      (case qv_NoDivisor => decide +kernel)
      (case qi_NoDivisor => first | k_is | rfl)
      (case qk_NoDivisor => first | k_is | rfl)
      (case qs_BadValue_BadValue => first | k_is | rfl)
      (case qpg_Fault => first | k_is | rfl)
      (case qhd_Fault => first | k_is | rfl)
      (case qpo_Fault => first | k_is | rfl)
      (case qsa_Fault => first | k_is | rfl)
      (case qno_Fault_kind => first | k_is | rfl)
      (case qha_Fault => first | k_is | rfl)
      (case qhm_Fault => first | k_is | rfl)
      (case qmk_Fault => first | k_is | rfl)
      (case qk_Fault => first | k_is | rfl)
      (case qpg_Grid => first | k_is | rfl)
      (case qhd_Grid => first | k_is | rfl)
      (case qpo_Grid => first | k_is | rfl)
      (case qsa_Grid => first | k_is | rfl)
      (case qno_Grid_corner => first | k_is | rfl)
      (case qno_Grid_height => first | k_is | rfl)
      (case qno_Grid_rows => first | k_is | rfl)
      (case qno_Grid_width => first | k_is | rfl)
      (case qha_Grid => first | k_is | rfl)
      (case qhm_Grid => first | k_is | rfl)
      (case qmk_Grid => first | k_is | rfl)
      (case qk_Grid => first | k_is | rfl)
      (case qpg_Ratio => first | k_is | rfl)
      (case qhd_Ratio => first | k_is | rfl)
      (case qpo_Ratio => first | k_is | rfl)
      (case qsa_Ratio => first | k_is | rfl)
      (case qno_Ratio_bottom => first | k_is | rfl)
      (case qno_Ratio_top => first | k_is | rfl)
      (case qha_Ratio => first | k_is | rfl)
      (case qhm_Ratio => first | k_is | rfl)
      (case qmk_Ratio => first | k_is | rfl)
      (case qk_Ratio => first | k_is | rfl)
      (case qhn => first | k_is | rfl)
      (case qht => first | k_is | rfl)
      (case qkt_Ratio_Ratio => first | k_is | rfl)
      (case qkt_Fault_Fault => first | k_is | rfl)
      (case qkt_Grid_Grid => first | k_is | rfl)
      (case qkt_Ratio_bool => first | k_is | rfl)
      (case qkt_Ratio_Fault => first | k_is | rfl)
      (case qkt_Fault_bool => first | k_is | rfl)
      (case qkt_str_Ratio => first | k_is | rfl)
      (case qkt_str_Strand => first | k_is | rfl)
      (case qkt_str_Member => first | k_is | rfl)
      (case qkt_str_Fault => first | k_is | rfl)
      (case qkt_Grid_list => first | k_is | rfl)
      (case qkt_Grid_tuple => first | k_is | rfl)
      (case qkt_NoneType_Grid => first | k_is | rfl)
      (case qkt_bool_Grid => first | k_is | rfl)
      (case qkt_int_Grid => first | k_is | rfl)
      (case qkt_str_Grid => first | k_is | rfl)
      (case qkt_list_Grid => first | k_is | rfl)
      (case qfiGrid_init => first | k_is | rfl)
      (case qlGrid_init => k_is)
      (case qcGrid_init => first | k_is | rfl)
      (case qkGrid_init => first | k_is | rfl)
      (case qisfGrid_init => first | k_is | rfl)
      (case qltGrid_init => k_is)
      (case qfiRatio_eq => first | k_is | rfl)
      (case qlRatio_eq => k_is)
      (case qcRatio_eq => first | k_is | rfl)
      (case qkRatio_eq => first | k_is | rfl)
      (case qisfRatio_eq => first | k_is | rfl)
      (case qneRatio_eq => first | k_is | rfl)
      (case qobRatio_eq => first | k_is | rfl)
      (case qfiFault_eq => first | k_is | rfl)
      (case qlFault_eq => k_is)
      (case qcFault_eq => first | k_is | rfl)
      (case qkFault_eq => first | k_is | rfl)
      (case qisfFault_eq => first | k_is | rfl)
      (case qneFault_eq => first | k_is | rfl)
      (case qobFault_eq => first | k_is | rfl)
      (case qfiGrid_eq => first | k_is | rfl)
      (case qlGrid_eq => k_is)
      (case qcGrid_eq => first | k_is | rfl)
      (case qkGrid_eq => first | k_is | rfl)
      (case qisfGrid_eq => first | k_is | rfl)
      (case qneGrid_eq => first | k_is | rfl)
      (case qobGrid_eq => first | k_is | rfl)
      (case qfiFault_init => first | k_is | rfl)
      (case qlFault_init => k_is)
      (case qcFault_init => first | k_is | rfl)
      (case qkFault_init => first | k_is | rfl)
      (case qisfFault_init => first | k_is | rfl)
      (case qfiRatio_init => first | k_is | rfl)
      (case qlRatio_init => k_is)
      (case qcRatio_init => first | k_is | rfl)
      (case qkRatio_init => first | k_is | rfl)
      (case qisfRatio_init => first | k_is | rfl)
      (case qltRatio_init => k_is)
      (case qaneed_items => k_is)
      (case qlneed_items => k_is)
      (case qcneed_items => k_is)
      (case qkneed_items => k_is)
      (case qais_number => k_is)
      (case qlis_number => k_is)
      (case qcis_number => k_is)
      (case qkis_number => k_is)
      (case qais_text => k_is)
      (case qlis_text => k_is)
      (case qcis_text => k_is)
      (case qkis_text => k_is)
      (case qais_value => k_is)
      (case qlis_value => k_is)
      (case qcis_value => k_is)
      (case qkis_value => k_is)
      (case qais_row => k_is)
      (case qlis_row => k_is)
      (case qcis_row => k_is)
      (case qkis_row => k_is)
      (case qaneed_rows => k_is)
      (case qlneed_rows => k_is)
      (case qcneed_rows => k_is)
      (case qkneed_rows => k_is)
      (case qais_integer => k_is)
      (case qlis_integer => k_is)
      (case qcis_integer => k_is)
      (case qkis_integer => k_is)
      (case qais_corner => k_is)
      (case qlis_corner => k_is)
      (case qcis_corner => k_is)
      (case qkis_corner => k_is)
      (case qastretch => k_is)
      (case qlstretch => k_is)
      (case qcstretch => k_is)
      (case qkstretch => k_is)
      (case qastretched => k_is)
      (case qlstretched => k_is)
      (case qcstretched => k_is)
      (case qkstretched => k_is)
      (case qa_law_draw => k_is)
      (case ql_law_draw => k_is)
      (case qc_law_draw => k_is)
      (case qk_law_draw => k_is)
      (case qa_law_pick => k_is)
      (case ql_law_pick => k_is)
      (case qc_law_pick => k_is)
      (case qk_law_pick => k_is)
      (case qa_law_refused => k_is)
      (case ql_law_refused => k_is)
      (case qc_law_refused => k_is)
      (case qk_law_refused => k_is)
      (case qapart_within => k_is)
      (case qlpart_within => k_is)
      (case qcpart_within => k_is)
      (case qkpart_within => k_is)
      (case qapart_at => k_is)
      (case qlpart_at => k_is)
      (case qcpart_at => k_is)
      (case qkpart_at => k_is)
      (case qa_law_are_refused => k_is)
      (case ql_law_are_refused => k_is)
      (case qc_law_are_refused => k_is)
      (case qk_law_are_refused => k_is)
      (case qaneed_integer => k_is)
      (case qlneed_integer => k_is)
      (case qcneed_integer => k_is)
      (case qkneed_integer => k_is)
      (case qacommon_whole => k_is)
      (case qlcommon_whole => k_is)
      (case qccommon_whole => k_is)
      (case qkcommon_whole => k_is)
      (case qa_law_value => k_is)
      (case ql_law_value => k_is)
      (case qc_law_value => k_is)
      (case qk_law_value => k_is)
      (case qa_law_rows => k_is)
      (case ql_law_rows => k_is)
      (case qc_law_rows => k_is)
      (case qk_law_rows => k_is)
      (case qa_law_same => k_is)
      (case ql_law_same => k_is)
      (case qc_law_same => k_is)
      (case qk_law_same => k_is)
      (case qa_law_given => k_is)
      (case ql_law_given => k_is)
      (case qc_law_given => k_is)
      (case qk_law_given => k_is)
      (case qalaw => k_is)
      (case qllaw => k_is)
      (case qclaw => k_is)
      (case qklaw => k_is)
      (case qa_law_begin => k_is)
      (case ql_law_begin => k_is)
      (case qc_law_begin => k_is)
      (case qk_law_begin => k_is)
      (case qcl_law_are_refused => k_is)
      (case qcp_law_are_refused => rfl)
      (case qch_law_are_refused => first | k_is | rfl)
      (case qpt_law_are_refused => exact PySem.W.km_tabs_of Y _ (by decide))
      (case qpk_law_are_refused => first | k_is | rfl)
